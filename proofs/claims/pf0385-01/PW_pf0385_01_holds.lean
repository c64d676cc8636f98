import PyProof.Rows.All
import Wide.All
import OpenK.AllK
import Wide.FinOn
import Lean
import PySem.Challenge.RW_pf0385_01

set_option Elab.async false
set_option compiler.extract_closed false
section
open PySem PySem.W PySem.Calls PyProof.Rows
set_option maxRecDepth 100000
set_option maxHeartbeats 8000000
set_option linter.unusedVariables false
namespace Lw
noncomputable abbrev pw : Program := PySem.Challenge.pw_pf0385_01
def ann : Option Value := some (.ref 6)
def pos0 : Pos := ⟨0, 0, 0, 0⟩
def posZ : Pos := ⟨203, 0, 218, 15⟩
noncomputable def envT : Env := { scope := pw.main.scope, locals := mainNs, globals := mainNs, cells := [], code := .ref 13, frame := some 14 }
noncomputable def cT : Code := .body (behindTheImports pw) envT
noncomputable abbrev S0 (w : World) (os : OsState) : Shared := ⟨boot_heap w.params, Array.mk [], boot_drawn, boot_toks, os⟩
def o11 : Obj := { cls := .type "tuple", data := .seq #[] }
def o12 : Obj := { cls := .none, data := .fields #[] }
def o13 : Obj := { cls := .type "code", data := .fields #[.str (Str.ofString "<module>") 182, .str (Str.ofString "<module>") 183, .str (Str.ofString "/claim/cut.py") 184, .int 1 0, .int 0 0, .int 0 0, .int 0 0, .int 0 0, .ref 11, .bool false, .int 181 0, .ref 12, .none, .none, .none, .none, .int 185 0, .int 1 0, .str (Str.ofString "/claim/cut.py") 186] }
def o14 : Obj := { cls := .type "frame", slots := #[some (.ref 13), some (.ref 3), some (.ref 3), none, some (.str (Str.ofString "__main__") 164), none, some (.ref 0)] }
noncomputable def hA (P : Params) : Heap := (((boot_heap P).push o11).push o12 |>.push o13).push o14
theorem opened : ∀ w : World, (fencedOpening treeTable pw w 15152).map (fun s => (s.heap, s.gens, s.drawn, s.toks)) = some (boot_heap w.params, Array.mk [], boot_drawn, boot_toks) := fun w => by
  rw [PySem.W.Fast.te14364793385576792824]
  kernel_rfl
theorem sized : ∀ w : World, ((boot_heap w.params).isNs mainGlobals && (Array.mk [] : Array GenState).size == 0, (boot_heap w.params).objs.size, (boot_heap w.params).nsMap mainGlobals "__annotations__") = (true, 11, ann) := fun w => by
  kernel_rfl
theorem pre (w : World) (os : OsState) : topGo treeTable pw w 11 ann 12 (S0 w os) (topStub pw) = some (⟨hA w.params, Array.mk [], boot_drawn, 187, os⟩, ⟨denote treeTable cT, cT, pos0, [topFrame pos0]⟩) := by
  rw [PySem.W.Fast.te14364793385576792824, PySem.W.Fast.te15667345088766844465, PySem.W.Fast.te11892475500146522536]
  kernel_rfl

def ofL : List Obj → Nat → BT → BT
  | [], _, t => t
  | o :: r, n, t => ofL r (n + 1) (t.ins n o)
noncomputable def tA (P : Params) : BT := ofL (hA P).objs.toList 0 .nil
noncomputable abbrev SB (w : World) (os : OsState) : SharedT := ⟨tA w.params, 15, {}, Array.mk [], boot_drawn, 187, os⟩
theorem tA_abs (P : Params) : absHeap (tA P) 15 {} = hA P := by kernel_rfl
theorem block (w : World) (os : OsState) : segRun treeTable pw w 11 ann 1 1 ⟨hA w.params, Array.mk [], boot_drawn, 187, os⟩ (blockOf (behindTheImports pw) envT cT pos0 [topFrame pos0]) =
    some (.next, (SB w os).abs, cT, pos0) := by
  show _ = some (Flow.next, (⟨absHeap (tA w.params) 15 {}, Array.mk [], boot_drawn, 187, os⟩ : Shared), cT, pos0)
  rw [tA_abs]
  kernel_rfl
theorem fin (w : World) (s : Shared) : topRun treeTable pw w 11 ann 2 s ⟨doneF .next, cT, posZ, [topFrame pos0]⟩ = some s := by
  obtain ⟨h, g, d, t, o⟩ := s
  kernel_rfl
noncomputable def stAt (i : Nat) : Stmt := (pw.main.body[i]?).getD (.Pass pos0)
noncomputable def inAt (i j : Nat) : Stmt := match stAt i with
  | .ClassDef _ _ _ b .. => (b[j]?).getD (.Pass pos0)
  | _ => .Pass pos0
def fArgs : Stmt → Arguments
  | .FunctionDef _ a .. => a
  | _ => default
def fBody : Stmt → List Stmt
  | .FunctionDef _ _ b .. => b
  | _ => []
def fScope : Stmt → Scope
  | .FunctionDef _ _ _ _ _ _ s .. => s
  | _ => default
noncomputable def o3a (P : Params) : Obj := ⟨(.type "dict"), none, (.dict #[⟨PyData.keyHash P (Str.ofString "__name__"), (.str (Str.ofString "__name__") 165), (.str (Str.ofString "switchloom.crc") 187)⟩, ⟨PyData.keyHash P (Str.ofString "__doc__"), (.str (Str.ofString "__doc__") 166), .none⟩, ⟨PyData.keyHash P (Str.ofString "__package__"), (.str (Str.ofString "__package__") 167), .none⟩, ⟨PyData.keyHash P (Str.ofString "__loader__"), (.str (Str.ofString "__loader__") 168), (.builtin "__main__.__loader__#opaque")⟩, ⟨PyData.keyHash P (Str.ofString "__spec__"), (.str (Str.ofString "__spec__") 169), .none⟩, ⟨PyData.keyHash P (Str.ofString "__annotations__"), (.str (Str.ofString "__annotations__") 170), (.ref 6)⟩, ⟨PyData.keyHash P (Str.ofString "__builtins__"), (.str (Str.ofString "__builtins__") 171), (.ref 4)⟩, ⟨PyData.keyHash P (Str.ofString "__file__"), (.str (Str.ofString "__file__") 173), (.str (Str.ofString "/claim/cut.py") 172)⟩, ⟨PyData.keyHash P (Str.ofString "__cached__"), (.str (Str.ofString "__cached__") 174), .none⟩, ⟨PyData.keyHash P (Str.ofString "TURNED_POLYNOMIAL"), (.str (Str.ofString "TURNED_POLYNOMIAL") 190), (.int 3988292384 189)⟩, ⟨PyData.keyHash P (Str.ofString "ALL_ONES"), (.str (Str.ofString "ALL_ONES") 192), (.int 4294967295 191)⟩, ⟨PyData.keyHash P (Str.ofString "divided_word"), (.str (Str.ofString "divided_word") 200), (.ref 21)⟩, ⟨PyData.keyHash P (Str.ofString "HALF_TABLE"), (.str (Str.ofString "HALF_TABLE") 844), (.ref 109)⟩] 13), #[]⟩
noncomputable def o11a (P : Params) : Obj := ⟨(.type "tuple"), none, (.seq #[] 0), #[]⟩
noncomputable def o12a (P : Params) : Obj := ⟨.none, none, (.fields #[(.int 4 0), (.int 0 0), (.ref 20)]), #[]⟩
noncomputable def o13a (P : Params) : Obj := ⟨(.type "code"), none, (.fields #[(.str (Str.ofString "<module>") 182), (.str (Str.ofString "<module>") 183), (.str (Str.ofString "/claim/cut.py") 184), (.int 1 0), (.int 0 0), (.int 0 0), (.int 0 0), (.int 0 0), (.ref 11), (.bool false), (.int 181 0), (.ref 12), .none, .none, .none, .none, (.int 185 0), (.int 1 0), (.str (Str.ofString "/claim/cut.py") 186)]), #[]⟩
noncomputable def o14a (P : Params) : Obj := ⟨(.type "frame"), none, .plain, #[(some (.ref 13)), (some (.ref 3)), (some (.ref 3)), none, (some (.str (Str.ofString "__main__") 164)), none, (some (.ref 0))]⟩
noncomputable def o15a (P : Params) : Obj := ⟨(.type "tuple"), none, (.seq #[] 0), #[]⟩
noncomputable def o16a (P : Params) : Obj := ⟨.none, none, (.fields #[]), #[]⟩
noncomputable def o17a (P : Params) : Obj := ⟨(.type "tuple"), none, (.seq #[(.str (Str.ofString "word") 196), (.str (Str.ofString "turn") 197)] 0), #[]⟩
noncomputable def o18a (P : Params) : Obj := ⟨(.type "tuple"), none, (.seq #[] 0), #[]⟩
noncomputable def o19a (P : Params) : Obj := ⟨.none, none, (.func ⟨(Str.ofString "divided_word"), (Str.ofString "divided_word"), fArgs (stAt 3), .stmts (fBody (stAt 3)), fScope (stAt 3), 0, [], .none, .none, .none, .none, none, .none, .none, 0⟩), #[]⟩
noncomputable def o20a (P : Params) : Obj := ⟨(.type "code"), none, (.fields #[(.str (Str.ofString "divided_word") 193), (.str (Str.ofString "divided_word") 194), (.str (Str.ofString "/claim/cut.py") 195), (.int 4 0), (.int 1 0), (.int 0 0), (.int 0 0), (.int 3 0), (.ref 15), (.bool true), (.int 181 0), (.ref 16), .none, (.ref 17), (.ref 18), (.ref 19), (.int 198 0), (.int 4 0), (.str (Str.ofString "/claim/cut.py") 199)]), #[]⟩
noncomputable def o21a (P : Params) : Obj := ⟨(.type "function"), none, (.func ⟨(Str.ofString "divided_word"), (Str.ofString "divided_word"), fArgs (stAt 3), .stmts (fBody (stAt 3)), fScope (stAt 3), 3, [], .none, .none, .none, (.str (Str.ofString "switchloom.crc") 187), none, (.ref 20), .none, 0⟩), #[]⟩
noncomputable def o22a (P : Params) : Obj := ⟨(.type "range"), none, (.fields #[(.int 0 202), (.int 16 201), (.int 1 203)]), #[]⟩
noncomputable def o23a (P : Params) : Obj := ⟨(.type "range_iterator"), none, (.fields #[(.int 16 0), (.int 0 0), (.int 1 0)]), #[]⟩
noncomputable def o24a (P : Params) : Obj := ⟨(.type "list"), none, (.seq #[(.int 0 240), (.int 498536548 279), (.int 997073096 318), (.int 651767980 358), (.int 1994146192 397), (.int 1802195444 437), (.int 1303535960 477), (.int 1342533948 518), (.int 3988292384 557), (.int 4027552580 597), (.int 3604390888 637), (.int 3412177804 678), (.int 2607071920 718), (.int 2262029012 759), (.int 2685067896 800), (.int 3183342108 842)] 16), #[]⟩
noncomputable def o25a (P : Params) : Obj := ⟨(.type "dict"), none, (.dict #[] 2), #[]⟩
noncomputable def o26a (P : Params) : Obj := ⟨(.type "frame"), none, (.dict #[⟨PyData.keyHash P (Str.ofString "word"), (.str (Str.ofString "word") 206), (.int 0 240)⟩, ⟨PyData.keyHash P (Str.ofString "turn"), (.str (Str.ofString "turn") 211), (.int 3 234)⟩] 2), #[]⟩
noncomputable def o27a (P : Params) : Obj := ⟨(.type "range"), none, (.fields #[(.int 0 208), (.int 4 207), (.int 1 209)]), #[]⟩
noncomputable def o28a (P : Params) : Obj := ⟨(.type "range_iterator"), none, (.fields #[(.int 4 0), (.int 0 0), (.int 1 0)]), #[]⟩
noncomputable def o29a (P : Params) : Obj := ⟨(.type "tuple"), none, (.seq #[] 0), #[]⟩
noncomputable def o30a (P : Params) : Obj := ⟨(.type "StopIteration"), none, (.fields #[(.ref 29), .none, .none, .none, (.bool false), .none]), #[]⟩
noncomputable def o31a (P : Params) : Obj := ⟨(.type "frame"), none, (.dict #[⟨PyData.keyHash P (Str.ofString "word"), (.str (Str.ofString "word") 244), (.int 498536548 279)⟩, ⟨PyData.keyHash P (Str.ofString "turn"), (.str (Str.ofString "turn") 249), (.int 3 273)⟩] 2), #[]⟩
noncomputable def o32a (P : Params) : Obj := ⟨(.type "range"), none, (.fields #[(.int 0 246), (.int 4 245), (.int 1 247)]), #[]⟩
noncomputable def o33a (P : Params) : Obj := ⟨(.type "range_iterator"), none, (.fields #[(.int 4 0), (.int 0 0), (.int 1 0)]), #[]⟩
noncomputable def o34a (P : Params) : Obj := ⟨(.type "tuple"), none, (.seq #[] 0), #[]⟩
noncomputable def o35a (P : Params) : Obj := ⟨(.type "StopIteration"), none, (.fields #[(.ref 34), .none, .none, .none, (.bool false), .none]), #[]⟩
noncomputable def o36a (P : Params) : Obj := ⟨(.type "frame"), none, (.dict #[⟨PyData.keyHash P (Str.ofString "word"), (.str (Str.ofString "word") 283), (.int 997073096 318)⟩, ⟨PyData.keyHash P (Str.ofString "turn"), (.str (Str.ofString "turn") 288), (.int 3 312)⟩] 2), #[]⟩
noncomputable def o37a (P : Params) : Obj := ⟨(.type "range"), none, (.fields #[(.int 0 285), (.int 4 284), (.int 1 286)]), #[]⟩
noncomputable def o38a (P : Params) : Obj := ⟨(.type "range_iterator"), none, (.fields #[(.int 4 0), (.int 0 0), (.int 1 0)]), #[]⟩
noncomputable def o39a (P : Params) : Obj := ⟨(.type "tuple"), none, (.seq #[] 0), #[]⟩
noncomputable def o40a (P : Params) : Obj := ⟨(.type "StopIteration"), none, (.fields #[(.ref 39), .none, .none, .none, (.bool false), .none]), #[]⟩
noncomputable def o41a (P : Params) : Obj := ⟨(.type "frame"), none, (.dict #[⟨PyData.keyHash P (Str.ofString "word"), (.str (Str.ofString "word") 322), (.int 651767980 358)⟩, ⟨PyData.keyHash P (Str.ofString "turn"), (.str (Str.ofString "turn") 327), (.int 3 352)⟩] 2), #[]⟩
noncomputable def o42a (P : Params) : Obj := ⟨(.type "range"), none, (.fields #[(.int 0 324), (.int 4 323), (.int 1 325)]), #[]⟩
noncomputable def o43a (P : Params) : Obj := ⟨(.type "range_iterator"), none, (.fields #[(.int 4 0), (.int 0 0), (.int 1 0)]), #[]⟩
noncomputable def o44a (P : Params) : Obj := ⟨(.type "tuple"), none, (.seq #[] 0), #[]⟩
noncomputable def o45a (P : Params) : Obj := ⟨(.type "StopIteration"), none, (.fields #[(.ref 44), .none, .none, .none, (.bool false), .none]), #[]⟩
noncomputable def o46a (P : Params) : Obj := ⟨(.type "frame"), none, (.dict #[⟨PyData.keyHash P (Str.ofString "word"), (.str (Str.ofString "word") 362), (.int 1994146192 397)⟩, ⟨PyData.keyHash P (Str.ofString "turn"), (.str (Str.ofString "turn") 367), (.int 3 391)⟩] 2), #[]⟩
noncomputable def o47a (P : Params) : Obj := ⟨(.type "range"), none, (.fields #[(.int 0 364), (.int 4 363), (.int 1 365)]), #[]⟩
noncomputable def o48a (P : Params) : Obj := ⟨(.type "range_iterator"), none, (.fields #[(.int 4 0), (.int 0 0), (.int 1 0)]), #[]⟩
noncomputable def o49a (P : Params) : Obj := ⟨(.type "tuple"), none, (.seq #[] 0), #[]⟩
noncomputable def o50a (P : Params) : Obj := ⟨(.type "StopIteration"), none, (.fields #[(.ref 49), .none, .none, .none, (.bool false), .none]), #[]⟩
noncomputable def o51a (P : Params) : Obj := ⟨(.type "frame"), none, (.dict #[⟨PyData.keyHash P (Str.ofString "word"), (.str (Str.ofString "word") 401), (.int 1802195444 437)⟩, ⟨PyData.keyHash P (Str.ofString "turn"), (.str (Str.ofString "turn") 406), (.int 3 431)⟩] 2), #[]⟩
noncomputable def o52a (P : Params) : Obj := ⟨(.type "range"), none, (.fields #[(.int 0 403), (.int 4 402), (.int 1 404)]), #[]⟩
noncomputable def o53a (P : Params) : Obj := ⟨(.type "range_iterator"), none, (.fields #[(.int 4 0), (.int 0 0), (.int 1 0)]), #[]⟩
noncomputable def o54a (P : Params) : Obj := ⟨(.type "tuple"), none, (.seq #[] 0), #[]⟩
noncomputable def o55a (P : Params) : Obj := ⟨(.type "StopIteration"), none, (.fields #[(.ref 54), .none, .none, .none, (.bool false), .none]), #[]⟩
noncomputable def o56a (P : Params) : Obj := ⟨(.type "frame"), none, (.dict #[⟨PyData.keyHash P (Str.ofString "word"), (.str (Str.ofString "word") 441), (.int 1303535960 477)⟩, ⟨PyData.keyHash P (Str.ofString "turn"), (.str (Str.ofString "turn") 446), (.int 3 471)⟩] 2), #[]⟩
noncomputable def o57a (P : Params) : Obj := ⟨(.type "range"), none, (.fields #[(.int 0 443), (.int 4 442), (.int 1 444)]), #[]⟩
noncomputable def o58a (P : Params) : Obj := ⟨(.type "range_iterator"), none, (.fields #[(.int 4 0), (.int 0 0), (.int 1 0)]), #[]⟩
noncomputable def o59a (P : Params) : Obj := ⟨(.type "tuple"), none, (.seq #[] 0), #[]⟩
noncomputable def o60a (P : Params) : Obj := ⟨(.type "StopIteration"), none, (.fields #[(.ref 59), .none, .none, .none, (.bool false), .none]), #[]⟩
noncomputable def o61a (P : Params) : Obj := ⟨(.type "frame"), none, (.dict #[⟨PyData.keyHash P (Str.ofString "word"), (.str (Str.ofString "word") 481), (.int 1342533948 518)⟩, ⟨PyData.keyHash P (Str.ofString "turn"), (.str (Str.ofString "turn") 486), (.int 3 512)⟩] 2), #[]⟩
noncomputable def o62a (P : Params) : Obj := ⟨(.type "range"), none, (.fields #[(.int 0 483), (.int 4 482), (.int 1 484)]), #[]⟩
noncomputable def o63a (P : Params) : Obj := ⟨(.type "range_iterator"), none, (.fields #[(.int 4 0), (.int 0 0), (.int 1 0)]), #[]⟩
noncomputable def o64a (P : Params) : Obj := ⟨(.type "tuple"), none, (.seq #[] 0), #[]⟩
noncomputable def o65a (P : Params) : Obj := ⟨(.type "StopIteration"), none, (.fields #[(.ref 64), .none, .none, .none, (.bool false), .none]), #[]⟩
noncomputable def o66a (P : Params) : Obj := ⟨(.type "frame"), none, (.dict #[⟨PyData.keyHash P (Str.ofString "word"), (.str (Str.ofString "word") 522), (.int 3988292384 557)⟩, ⟨PyData.keyHash P (Str.ofString "turn"), (.str (Str.ofString "turn") 527), (.int 3 550)⟩] 2), #[]⟩
noncomputable def o67a (P : Params) : Obj := ⟨(.type "range"), none, (.fields #[(.int 0 524), (.int 4 523), (.int 1 525)]), #[]⟩
noncomputable def o68a (P : Params) : Obj := ⟨(.type "range_iterator"), none, (.fields #[(.int 4 0), (.int 0 0), (.int 1 0)]), #[]⟩
noncomputable def o69a (P : Params) : Obj := ⟨(.type "tuple"), none, (.seq #[] 0), #[]⟩
noncomputable def o70a (P : Params) : Obj := ⟨(.type "StopIteration"), none, (.fields #[(.ref 69), .none, .none, .none, (.bool false), .none]), #[]⟩
noncomputable def o71a (P : Params) : Obj := ⟨(.type "frame"), none, (.dict #[⟨PyData.keyHash P (Str.ofString "word"), (.str (Str.ofString "word") 561), (.int 4027552580 597)⟩, ⟨PyData.keyHash P (Str.ofString "turn"), (.str (Str.ofString "turn") 566), (.int 3 590)⟩] 2), #[]⟩
noncomputable def o72a (P : Params) : Obj := ⟨(.type "range"), none, (.fields #[(.int 0 563), (.int 4 562), (.int 1 564)]), #[]⟩
noncomputable def o73a (P : Params) : Obj := ⟨(.type "range_iterator"), none, (.fields #[(.int 4 0), (.int 0 0), (.int 1 0)]), #[]⟩
noncomputable def o74a (P : Params) : Obj := ⟨(.type "tuple"), none, (.seq #[] 0), #[]⟩
noncomputable def o75a (P : Params) : Obj := ⟨(.type "StopIteration"), none, (.fields #[(.ref 74), .none, .none, .none, (.bool false), .none]), #[]⟩
noncomputable def o76a (P : Params) : Obj := ⟨(.type "frame"), none, (.dict #[⟨PyData.keyHash P (Str.ofString "word"), (.str (Str.ofString "word") 601), (.int 3604390888 637)⟩, ⟨PyData.keyHash P (Str.ofString "turn"), (.str (Str.ofString "turn") 606), (.int 3 630)⟩] 2), #[]⟩
noncomputable def o77a (P : Params) : Obj := ⟨(.type "range"), none, (.fields #[(.int 0 603), (.int 4 602), (.int 1 604)]), #[]⟩
noncomputable def o78a (P : Params) : Obj := ⟨(.type "range_iterator"), none, (.fields #[(.int 4 0), (.int 0 0), (.int 1 0)]), #[]⟩
noncomputable def o79a (P : Params) : Obj := ⟨(.type "tuple"), none, (.seq #[] 0), #[]⟩
noncomputable def o80a (P : Params) : Obj := ⟨(.type "StopIteration"), none, (.fields #[(.ref 79), .none, .none, .none, (.bool false), .none]), #[]⟩
noncomputable def o81a (P : Params) : Obj := ⟨(.type "frame"), none, (.dict #[⟨PyData.keyHash P (Str.ofString "word"), (.str (Str.ofString "word") 641), (.int 3412177804 678)⟩, ⟨PyData.keyHash P (Str.ofString "turn"), (.str (Str.ofString "turn") 646), (.int 3 671)⟩] 2), #[]⟩
noncomputable def o82a (P : Params) : Obj := ⟨(.type "range"), none, (.fields #[(.int 0 643), (.int 4 642), (.int 1 644)]), #[]⟩
noncomputable def o83a (P : Params) : Obj := ⟨(.type "range_iterator"), none, (.fields #[(.int 4 0), (.int 0 0), (.int 1 0)]), #[]⟩
noncomputable def o84a (P : Params) : Obj := ⟨(.type "tuple"), none, (.seq #[] 0), #[]⟩
noncomputable def o85a (P : Params) : Obj := ⟨(.type "StopIteration"), none, (.fields #[(.ref 84), .none, .none, .none, (.bool false), .none]), #[]⟩
noncomputable def o86a (P : Params) : Obj := ⟨(.type "frame"), none, (.dict #[⟨PyData.keyHash P (Str.ofString "word"), (.str (Str.ofString "word") 682), (.int 2607071920 718)⟩, ⟨PyData.keyHash P (Str.ofString "turn"), (.str (Str.ofString "turn") 687), (.int 3 711)⟩] 2), #[]⟩
noncomputable def o87a (P : Params) : Obj := ⟨(.type "range"), none, (.fields #[(.int 0 684), (.int 4 683), (.int 1 685)]), #[]⟩
noncomputable def o88a (P : Params) : Obj := ⟨(.type "range_iterator"), none, (.fields #[(.int 4 0), (.int 0 0), (.int 1 0)]), #[]⟩
noncomputable def o89a (P : Params) : Obj := ⟨(.type "tuple"), none, (.seq #[] 0), #[]⟩
noncomputable def o90a (P : Params) : Obj := ⟨(.type "StopIteration"), none, (.fields #[(.ref 89), .none, .none, .none, (.bool false), .none]), #[]⟩
noncomputable def o91a (P : Params) : Obj := ⟨(.type "frame"), none, (.dict #[⟨PyData.keyHash P (Str.ofString "word"), (.str (Str.ofString "word") 722), (.int 2262029012 759)⟩, ⟨PyData.keyHash P (Str.ofString "turn"), (.str (Str.ofString "turn") 727), (.int 3 752)⟩] 2), #[]⟩
noncomputable def o92a (P : Params) : Obj := ⟨(.type "range"), none, (.fields #[(.int 0 724), (.int 4 723), (.int 1 725)]), #[]⟩
noncomputable def o93a (P : Params) : Obj := ⟨(.type "range_iterator"), none, (.fields #[(.int 4 0), (.int 0 0), (.int 1 0)]), #[]⟩
noncomputable def o94a (P : Params) : Obj := ⟨(.type "tuple"), none, (.seq #[] 0), #[]⟩
noncomputable def o95a (P : Params) : Obj := ⟨(.type "StopIteration"), none, (.fields #[(.ref 94), .none, .none, .none, (.bool false), .none]), #[]⟩
noncomputable def o96a (P : Params) : Obj := ⟨(.type "frame"), none, (.dict #[⟨PyData.keyHash P (Str.ofString "word"), (.str (Str.ofString "word") 763), (.int 2685067896 800)⟩, ⟨PyData.keyHash P (Str.ofString "turn"), (.str (Str.ofString "turn") 768), (.int 3 793)⟩] 2), #[]⟩
noncomputable def o97a (P : Params) : Obj := ⟨(.type "range"), none, (.fields #[(.int 0 765), (.int 4 764), (.int 1 766)]), #[]⟩
noncomputable def o98a (P : Params) : Obj := ⟨(.type "range_iterator"), none, (.fields #[(.int 4 0), (.int 0 0), (.int 1 0)]), #[]⟩
noncomputable def o99a (P : Params) : Obj := ⟨(.type "tuple"), none, (.seq #[] 0), #[]⟩
noncomputable def o100a (P : Params) : Obj := ⟨(.type "StopIteration"), none, (.fields #[(.ref 99), .none, .none, .none, (.bool false), .none]), #[]⟩
noncomputable def o101a (P : Params) : Obj := ⟨(.type "frame"), none, (.dict #[⟨PyData.keyHash P (Str.ofString "word"), (.str (Str.ofString "word") 804), (.int 3183342108 842)⟩, ⟨PyData.keyHash P (Str.ofString "turn"), (.str (Str.ofString "turn") 809), (.int 3 835)⟩] 2), #[]⟩
noncomputable def o102a (P : Params) : Obj := ⟨(.type "range"), none, (.fields #[(.int 0 806), (.int 4 805), (.int 1 807)]), #[]⟩
noncomputable def o103a (P : Params) : Obj := ⟨(.type "range_iterator"), none, (.fields #[(.int 4 0), (.int 0 0), (.int 1 0)]), #[]⟩
noncomputable def o104a (P : Params) : Obj := ⟨(.type "tuple"), none, (.seq #[] 0), #[]⟩
noncomputable def o105a (P : Params) : Obj := ⟨(.type "StopIteration"), none, (.fields #[(.ref 104), .none, .none, .none, (.bool false), .none]), #[]⟩
noncomputable def o106a (P : Params) : Obj := ⟨(.type "tuple"), none, (.seq #[] 0), #[]⟩
noncomputable def o107a (P : Params) : Obj := ⟨(.type "StopIteration"), none, (.fields #[(.ref 106), .none, .none, .none, (.bool false), .none]), #[]⟩
noncomputable def o108a (P : Params) : Obj := ⟨(.type "list"), none, (.seq #[(.int 0 240), (.int 498536548 279), (.int 997073096 318), (.int 651767980 358), (.int 1994146192 397), (.int 1802195444 437), (.int 1303535960 477), (.int 1342533948 518), (.int 3988292384 557), (.int 4027552580 597), (.int 3604390888 637), (.int 3412177804 678), (.int 2607071920 718), (.int 2262029012 759), (.int 2685067896 800), (.int 3183342108 842)] 1), #[]⟩
noncomputable def o109a (P : Params) : Obj := ⟨(.type "tuple"), none, (.seq #[(.int 0 240), (.int 498536548 279), (.int 997073096 318), (.int 651767980 358), (.int 1994146192 397), (.int 1802195444 437), (.int 1303535960 477), (.int 1342533948 518), (.int 3988292384 557), (.int 4027552580 597), (.int 3604390888 637), (.int 3412177804 678), (.int 2607071920 718), (.int 2262029012 759), (.int 2685067896 800), (.int 3183342108 842)] 0), #[]⟩
noncomputable def o2b (P : Params) : Obj := ⟨.none, none, (.dict #[⟨PyData.keyHash P (Str.ofString "type.__subclasses__.Exception.0"), (.str (Str.ofString "type.__subclasses__.Exception.0") 887), (.int 138 0)⟩, ⟨PyData.keyHash P (Str.ofString "type.__subclasses__.Exception.n"), (.str (Str.ofString "type.__subclasses__.Exception.n") 888), (.int 1 0)⟩] 2), #[]⟩
noncomputable def o3b (P : Params) : Obj := ⟨(.type "dict"), none, (.dict #[⟨PyData.keyHash P (Str.ofString "__name__"), (.str (Str.ofString "__name__") 165), (.str (Str.ofString "switchloom.frames") 972)⟩, ⟨PyData.keyHash P (Str.ofString "__doc__"), (.str (Str.ofString "__doc__") 166), .none⟩, ⟨PyData.keyHash P (Str.ofString "__package__"), (.str (Str.ofString "__package__") 167), .none⟩, ⟨PyData.keyHash P (Str.ofString "__loader__"), (.str (Str.ofString "__loader__") 168), (.builtin "__main__.__loader__#opaque")⟩, ⟨PyData.keyHash P (Str.ofString "__spec__"), (.str (Str.ofString "__spec__") 169), .none⟩, ⟨PyData.keyHash P (Str.ofString "__annotations__"), (.str (Str.ofString "__annotations__") 170), (.ref 6)⟩, ⟨PyData.keyHash P (Str.ofString "__builtins__"), (.str (Str.ofString "__builtins__") 171), (.ref 4)⟩, ⟨PyData.keyHash P (Str.ofString "__file__"), (.str (Str.ofString "__file__") 173), (.str (Str.ofString "/claim/cut.py") 172)⟩, ⟨PyData.keyHash P (Str.ofString "__cached__"), (.str (Str.ofString "__cached__") 174), .none⟩, ⟨PyData.keyHash P (Str.ofString "TURNED_POLYNOMIAL"), (.str (Str.ofString "TURNED_POLYNOMIAL") 190), (.int 3988292384 189)⟩, ⟨PyData.keyHash P (Str.ofString "ALL_ONES"), (.str (Str.ofString "ALL_ONES") 192), (.int 4294967295 191)⟩, ⟨PyData.keyHash P (Str.ofString "divided_word"), (.str (Str.ofString "divided_word") 200), (.ref 21)⟩, ⟨PyData.keyHash P (Str.ofString "HALF_TABLE"), (.str (Str.ofString "HALF_TABLE") 844), (.ref 109)⟩, ⟨PyData.keyHash P (Str.ofString "crc32"), (.str (Str.ofString "crc32") 853), (.ref 116)⟩, ⟨PyData.keyHash P (Str.ofString "frame_sum"), (.str (Str.ofString "frame_sum") 859), (.ref 121)⟩, ⟨PyData.keyHash P (Str.ofString "SwitchError"), (.str (Str.ofString "SwitchError") 890), (.ref 138)⟩, ⟨PyData.keyHash P (Str.ofString "FormError"), (.str (Str.ofString "FormError") 906), (.ref 151)⟩, ⟨PyData.keyHash P (Str.ofString "SizeError"), (.str (Str.ofString "SizeError") 922), (.ref 163)⟩, ⟨PyData.keyHash P (Str.ofString "put_number"), (.str (Str.ofString "put_number") 930), (.ref 170)⟩, ⟨PyData.keyHash P (Str.ofString "get_number"), (.str (Str.ofString "get_number") 941), (.ref 177)⟩, ⟨PyData.keyHash P (Str.ofString "put16"), (.str (Str.ofString "put16") 948), (.ref 184)⟩, ⟨PyData.keyHash P (Str.ofString "put48"), (.str (Str.ofString "put48") 955), (.ref 191)⟩, ⟨PyData.keyHash P (Str.ofString "get16"), (.str (Str.ofString "get16") 963), (.ref 198)⟩, ⟨PyData.keyHash P (Str.ofString "get48"), (.str (Str.ofString "get48") 971), (.ref 205)⟩, ⟨PyData.keyHash P (Str.ofString "CUSTOMER_KIND"), (.str (Str.ofString "CUSTOMER_KIND") 975), (.int 33024 974)⟩, ⟨PyData.keyHash P (Str.ofString "PROVIDER_KIND"), (.str (Str.ofString "PROVIDER_KIND") 977), (.int 34984 976)⟩, ⟨PyData.keyHash P (Str.ofString "TAG_KINDS"), (.str (Str.ofString "TAG_KINDS") 978), (.ref 206)⟩, ⟨PyData.keyHash P (Str.ofString "FIRST_KIND"), (.str (Str.ofString "FIRST_KIND") 980), (.int 1536 979)⟩, ⟨PyData.keyHash P (Str.ofString "MOST_LENGTH"), (.str (Str.ofString "MOST_LENGTH") 982), (.int 1500 981)⟩, ⟨PyData.keyHash P (Str.ofString "MOST_TAGS"), (.str (Str.ofString "MOST_TAGS") 984), (.int 4 983)⟩, ⟨PyData.keyHash P (Str.ofString "NO_VLAN"), (.str (Str.ofString "NO_VLAN") 986), (.int 4095 985)⟩, ⟨PyData.keyHash P (Str.ofString "HEAD_SIZE"), (.str (Str.ofString "HEAD_SIZE") 988), (.int 14 987)⟩, ⟨PyData.keyHash P (Str.ofString "TAG_SIZE"), (.str (Str.ofString "TAG_SIZE") 990), (.int 4 989)⟩, ⟨PyData.keyHash P (Str.ofString "SUM_SIZE"), (.str (Str.ofString "SUM_SIZE") 992), (.int 4 991)⟩, ⟨PyData.keyHash P (Str.ofString "LEAST_SIZE"), (.str (Str.ofString "LEAST_SIZE") 994), (.int 60 993)⟩] 35), #[]⟩
noncomputable def o12b (P : Params) : Obj := ⟨.none, none, (.fields #[(.int 4 0), (.int 0 0), (.ref 20), (.int 9 0), (.int 0 0), (.ref 115), (.int 15 0), (.int 0 0), (.ref 120), (.int 19 0), (.int 0 0), (.ref 127), (.int 24 0), (.int 0 0), (.ref 147), (.int 26 0), (.int 0 0), (.ref 159), (.int 29 0), (.int 0 0), (.ref 169), (.int 33 0), (.int 0 0), (.ref 176), (.int 40 0), (.int 0 0), (.ref 183), (.int 42 0), (.int 0 0), (.ref 190), (.int 44 0), (.int 0 0), (.ref 197), (.int 46 0), (.int 0 0), (.ref 204)]), #[]⟩
noncomputable def o110b (P : Params) : Obj := ⟨(.type "tuple"), none, (.seq #[] 0), #[]⟩
noncomputable def o111b (P : Params) : Obj := ⟨.none, none, (.fields #[]), #[]⟩
noncomputable def o112b (P : Params) : Obj := ⟨(.type "tuple"), none, (.seq #[(.str (Str.ofString "octets") 848), (.str (Str.ofString "word") 849), (.str (Str.ofString "octet") 850)] 0), #[]⟩
noncomputable def o113b (P : Params) : Obj := ⟨(.type "tuple"), none, (.seq #[] 0), #[]⟩
noncomputable def o114b (P : Params) : Obj := ⟨.none, none, (.func ⟨(Str.ofString "crc32"), (Str.ofString "crc32"), fArgs (stAt 5), .stmts (fBody (stAt 5)), fScope (stAt 5), 0, [], .none, .none, .none, .none, none, .none, .none, 0⟩), #[]⟩
noncomputable def o115b (P : Params) : Obj := ⟨(.type "code"), none, (.fields #[(.str (Str.ofString "crc32") 845), (.str (Str.ofString "crc32") 846), (.str (Str.ofString "/claim/cut.py") 847), (.int 9 0), (.int 1 0), (.int 0 0), (.int 0 0), (.int 3 0), (.ref 110), (.bool true), (.int 181 0), (.ref 111), .none, (.ref 112), (.ref 113), (.ref 114), (.int 851 0), (.int 9 0), (.str (Str.ofString "/claim/cut.py") 852)]), #[]⟩
noncomputable def o116b (P : Params) : Obj := ⟨(.type "function"), none, (.func ⟨(Str.ofString "crc32"), (Str.ofString "crc32"), fArgs (stAt 5), .stmts (fBody (stAt 5)), fScope (stAt 5), 3, [], .none, .none, .none, (.str (Str.ofString "switchloom.crc") 187), none, (.ref 115), .none, 0⟩), #[]⟩
noncomputable def o117b (P : Params) : Obj := ⟨(.type "tuple"), none, (.seq #[] 0), #[]⟩
noncomputable def o118b (P : Params) : Obj := ⟨.none, none, (.fields #[]), #[]⟩
noncomputable def o119b (P : Params) : Obj := ⟨.none, none, (.func ⟨(Str.ofString "frame_sum"), (Str.ofString "frame_sum"), fArgs (stAt 6), .stmts (fBody (stAt 6)), fScope (stAt 6), 0, [], .none, .none, .none, .none, none, .none, .none, 0⟩), #[]⟩
noncomputable def o120b (P : Params) : Obj := ⟨(.type "code"), none, (.fields #[(.str (Str.ofString "frame_sum") 854), (.str (Str.ofString "frame_sum") 855), (.str (Str.ofString "/claim/cut.py") 856), (.int 15 0), (.int 1 0), (.int 0 0), (.int 0 0), (.int 3 0), (.ref 117), (.bool true), (.int 181 0), (.ref 118), .none, .none, .none, (.ref 119), (.int 857 0), (.int 15 0), (.str (Str.ofString "/claim/cut.py") 858)]), #[]⟩
noncomputable def o121b (P : Params) : Obj := ⟨(.type "function"), none, (.func ⟨(Str.ofString "frame_sum"), (Str.ofString "frame_sum"), fArgs (stAt 6), .stmts (fBody (stAt 6)), fScope (stAt 6), 3, [], .none, .none, .none, (.str (Str.ofString "switchloom.crc") 187), none, (.ref 120), .none, 0⟩), #[]⟩
noncomputable def o122b (P : Params) : Obj := ⟨(.type "tuple"), none, (.seq #[(.type "Exception")] 0), #[]⟩
noncomputable def o123b (P : Params) : Obj := ⟨(.type "builtin_function_or_method"), none, (.fields #[(.builtin "type.__prepare__"), (.type "type")]), #[]⟩
noncomputable def o124b (P : Params) : Obj := ⟨(.type "dict"), none, (.dict #[⟨PyData.keyHash P (Str.ofString "__module__"), (.str (Str.ofString "__module__") 869), (.str (Str.ofString "switchloom.errors") 860)⟩, ⟨PyData.keyHash P (Str.ofString "__qualname__"), (.str (Str.ofString "__qualname__") 871), (.str (Str.ofString "SwitchError") 870)⟩, ⟨PyData.keyHash P (Str.ofString "__firstlineno__"), (.str (Str.ofString "__firstlineno__") 873), (.int 19 872)⟩, ⟨PyData.keyHash P (Str.ofString "__init__"), (.str (Str.ofString "__init__") 881), (.ref 135)⟩, ⟨PyData.keyHash P (Str.ofString "__static_attributes__"), (.str (Str.ofString "__static_attributes__") 883), (.ref 136)⟩] 5), #[]⟩
noncomputable def o125b (P : Params) : Obj := ⟨(.type "tuple"), none, (.seq #[] 0), #[]⟩
noncomputable def o126b (P : Params) : Obj := ⟨.none, none, (.fields #[(.int 21 0), (.int 4 0), (.ref 134)]), #[]⟩
noncomputable def o127b (P : Params) : Obj := ⟨(.type "code"), none, (.fields #[(.str (Str.ofString "SwitchError") 864), (.str (Str.ofString "SwitchError") 865), (.str (Str.ofString "/claim/cut.py") 866), (.int 19 0), (.int 0 0), (.int 0 0), (.int 0 0), (.int 0 0), (.ref 125), (.bool false), (.int 181 0), (.ref 126), .none, .none, .none, .none, (.int 867 0), (.int 19 0), (.str (Str.ofString "/claim/cut.py") 868)]), #[]⟩
noncomputable def o128b (P : Params) : Obj := ⟨(.type "frame"), none, .plain, #[(some (.ref 127)), (some (.ref 3)), (some (.ref 124)), none, (some (.str (Str.ofString "switchloom.errors") 860)), none, (some (.ref 0))]⟩
noncomputable def o129b (P : Params) : Obj := ⟨(.type "tuple"), none, (.seq #[] 0), #[]⟩
noncomputable def o130b (P : Params) : Obj := ⟨.none, none, (.fields #[]), #[]⟩
noncomputable def o131b (P : Params) : Obj := ⟨(.type "tuple"), none, (.seq #[(.str (Str.ofString "self") 877), (.str (Str.ofString "message") 878)] 0), #[]⟩
noncomputable def o132b (P : Params) : Obj := ⟨(.type "tuple"), none, (.seq #[] 0), #[]⟩
noncomputable def o133b (P : Params) : Obj := ⟨.none, none, (.func ⟨(Str.ofString "__init__"), (Str.ofString "SwitchError.__init__"), fArgs (inAt 8 0), .stmts (fBody (inAt 8 0)), fScope (inAt 8 0), 0, [], .none, .none, .none, .none, none, .none, .none, 0⟩), #[]⟩
noncomputable def o134b (P : Params) : Obj := ⟨(.type "code"), none, (.fields #[(.str (Str.ofString "__init__") 874), (.str (Str.ofString "SwitchError.__init__") 875), (.str (Str.ofString "/claim/cut.py") 876), (.int 21 0), (.int 2 0), (.int 0 0), (.int 0 0), (.int 3 0), (.ref 129), (.bool true), (.int 181 0), (.ref 130), .none, (.ref 131), (.ref 132), (.ref 133), (.int 879 0), (.int 21 0), (.str (Str.ofString "/claim/cut.py") 880)]), #[]⟩
noncomputable def o135b (P : Params) : Obj := ⟨(.type "function"), none, (.func ⟨(Str.ofString "__init__"), (Str.ofString "SwitchError.__init__"), fArgs (inAt 8 0), .stmts (fBody (inAt 8 0)), fScope (inAt 8 0), 3, [], .none, .none, .none, (.str (Str.ofString "switchloom.errors") 860), none, (.ref 134), .none, 0⟩), #[]⟩
noncomputable def o136b (P : Params) : Obj := ⟨(.type "tuple"), none, (.seq #[(.str (Str.ofString "message") 882)] 0), #[]⟩
noncomputable def o137b (P : Params) : Obj := ⟨(.type "dict"), none, (.dict #[⟨PyData.keyHash P (Str.ofString "__module__"), (.str (Str.ofString "__module__") 869), (.str (Str.ofString "switchloom.errors") 860)⟩, ⟨PyData.keyHash P (Str.ofString "__firstlineno__"), (.str (Str.ofString "__firstlineno__") 873), (.int 19 872)⟩, ⟨PyData.keyHash P (Str.ofString "__init__"), (.str (Str.ofString "__init__") 881), (.ref 135)⟩, ⟨PyData.keyHash P (Str.ofString "__static_attributes__"), (.str (Str.ofString "__static_attributes__") 883), (.ref 136)⟩, ⟨PyData.keyHash P (Str.ofString "__weakref__"), (.str (Str.ofString "__weakref__") 885), (.ref 139)⟩, ⟨PyData.keyHash P (Str.ofString "__doc__"), (.str (Str.ofString "__doc__") 886), .none⟩] 3), #[]⟩
noncomputable def o138b (P : Params) : Obj := ⟨(.type "type"), none, (.cls ⟨(Str.ofString "SwitchError"), [(.type "Exception")], [(.ref 138), (.type "Exception"), (.type "BaseException"), (.type "object")], 137, (Str.ofString "SwitchError"), true, [], [(.ref 151), (.ref 163)], false, none, false⟩), #[(some (.ref 122)), none, (some (.str (Str.ofString "SwitchError") 862)), (some (.str (Str.ofString "SwitchError") 870)), (some (.builtin "Exception.__new__")), (some (.bool true))]⟩
noncomputable def o139b (P : Params) : Obj := ⟨(.type "getset_descriptor"), none, (.fields #[(.str (Str.ofString "__weakref__") 884), (.ref 138), (.builtin "ExceptionGroup.__weakref__"), .none]), #[]⟩
noncomputable def o140b (P : Params) : Obj := ⟨(.type "super"), none, (.fields #[(.ref 138), (.ref 138), (.ref 138)]), #[]⟩
noncomputable def o141b (P : Params) : Obj := ⟨(.type "builtin_function_or_method"), none, (.fields #[(.builtin "object.__init_subclass__"), (.ref 138)]), #[]⟩
noncomputable def o142b (P : Params) : Obj := ⟨(.type "tuple"), none, (.seq #[(.ref 138)] 0), #[]⟩
noncomputable def o143b (P : Params) : Obj := ⟨(.type "builtin_function_or_method"), none, (.fields #[(.builtin "type.__prepare__"), (.type "type")]), #[]⟩
noncomputable def o144b (P : Params) : Obj := ⟨(.type "dict"), none, (.dict #[⟨PyData.keyHash P (Str.ofString "__module__"), (.str (Str.ofString "__module__") 898), (.str (Str.ofString "switchloom.errors") 860)⟩, ⟨PyData.keyHash P (Str.ofString "__qualname__"), (.str (Str.ofString "__qualname__") 900), (.str (Str.ofString "FormError") 899)⟩, ⟨PyData.keyHash P (Str.ofString "__firstlineno__"), (.str (Str.ofString "__firstlineno__") 902), (.int 24 901)⟩, ⟨PyData.keyHash P (Str.ofString "__static_attributes__"), (.str (Str.ofString "__static_attributes__") 903), (.ref 149)⟩] 4), #[]⟩
noncomputable def o145b (P : Params) : Obj := ⟨(.type "tuple"), none, (.seq #[] 0), #[]⟩
noncomputable def o146b (P : Params) : Obj := ⟨.none, none, (.fields #[]), #[]⟩
noncomputable def o147b (P : Params) : Obj := ⟨(.type "code"), none, (.fields #[(.str (Str.ofString "FormError") 893), (.str (Str.ofString "FormError") 894), (.str (Str.ofString "/claim/cut.py") 895), (.int 24 0), (.int 0 0), (.int 0 0), (.int 0 0), (.int 0 0), (.ref 145), (.bool false), (.int 181 0), (.ref 146), .none, .none, .none, .none, (.int 896 0), (.int 24 0), (.str (Str.ofString "/claim/cut.py") 897)]), #[]⟩
noncomputable def o148b (P : Params) : Obj := ⟨(.type "frame"), none, .plain, #[(some (.ref 147)), (some (.ref 3)), (some (.ref 144)), none, (some (.str (Str.ofString "switchloom.errors") 860)), none, (some (.ref 0))]⟩
noncomputable def o149b (P : Params) : Obj := ⟨(.type "tuple"), none, (.seq #[] 0), #[]⟩
noncomputable def o150b (P : Params) : Obj := ⟨(.type "dict"), none, (.dict #[⟨PyData.keyHash P (Str.ofString "__module__"), (.str (Str.ofString "__module__") 898), (.str (Str.ofString "switchloom.errors") 860)⟩, ⟨PyData.keyHash P (Str.ofString "__firstlineno__"), (.str (Str.ofString "__firstlineno__") 902), (.int 24 901)⟩, ⟨PyData.keyHash P (Str.ofString "__static_attributes__"), (.str (Str.ofString "__static_attributes__") 903), (.ref 149)⟩, ⟨PyData.keyHash P (Str.ofString "__doc__"), (.str (Str.ofString "__doc__") 904), .none⟩] 2), #[]⟩
noncomputable def o151b (P : Params) : Obj := ⟨(.type "type"), none, (.cls ⟨(Str.ofString "FormError"), [(.ref 138)], [(.ref 151), (.ref 138), (.type "Exception"), (.type "BaseException"), (.type "object")], 150, (Str.ofString "FormError"), true, [], [], false, none, false⟩), #[(some (.ref 142)), none, (some (.str (Str.ofString "FormError") 891)), (some (.str (Str.ofString "FormError") 899)), (some (.builtin "Exception.__new__")), (some (.bool true))]⟩
noncomputable def o152b (P : Params) : Obj := ⟨(.type "super"), none, (.fields #[(.ref 151), (.ref 151), (.ref 151)]), #[]⟩
noncomputable def o153b (P : Params) : Obj := ⟨(.type "builtin_function_or_method"), none, (.fields #[(.builtin "object.__init_subclass__"), (.ref 151)]), #[]⟩
noncomputable def o154b (P : Params) : Obj := ⟨(.type "tuple"), none, (.seq #[(.ref 138)] 0), #[]⟩
noncomputable def o155b (P : Params) : Obj := ⟨(.type "builtin_function_or_method"), none, (.fields #[(.builtin "type.__prepare__"), (.type "type")]), #[]⟩
noncomputable def o156b (P : Params) : Obj := ⟨(.type "dict"), none, (.dict #[⟨PyData.keyHash P (Str.ofString "__module__"), (.str (Str.ofString "__module__") 914), (.str (Str.ofString "switchloom.errors") 860)⟩, ⟨PyData.keyHash P (Str.ofString "__qualname__"), (.str (Str.ofString "__qualname__") 916), (.str (Str.ofString "SizeError") 915)⟩, ⟨PyData.keyHash P (Str.ofString "__firstlineno__"), (.str (Str.ofString "__firstlineno__") 918), (.int 26 917)⟩, ⟨PyData.keyHash P (Str.ofString "__static_attributes__"), (.str (Str.ofString "__static_attributes__") 919), (.ref 161)⟩] 4), #[]⟩
noncomputable def o157b (P : Params) : Obj := ⟨(.type "tuple"), none, (.seq #[] 0), #[]⟩
noncomputable def o158b (P : Params) : Obj := ⟨.none, none, (.fields #[]), #[]⟩
noncomputable def o159b (P : Params) : Obj := ⟨(.type "code"), none, (.fields #[(.str (Str.ofString "SizeError") 909), (.str (Str.ofString "SizeError") 910), (.str (Str.ofString "/claim/cut.py") 911), (.int 26 0), (.int 0 0), (.int 0 0), (.int 0 0), (.int 0 0), (.ref 157), (.bool false), (.int 181 0), (.ref 158), .none, .none, .none, .none, (.int 912 0), (.int 26 0), (.str (Str.ofString "/claim/cut.py") 913)]), #[]⟩
noncomputable def o160b (P : Params) : Obj := ⟨(.type "frame"), none, .plain, #[(some (.ref 159)), (some (.ref 3)), (some (.ref 156)), none, (some (.str (Str.ofString "switchloom.errors") 860)), none, (some (.ref 0))]⟩
noncomputable def o161b (P : Params) : Obj := ⟨(.type "tuple"), none, (.seq #[] 0), #[]⟩
noncomputable def o162b (P : Params) : Obj := ⟨(.type "dict"), none, (.dict #[⟨PyData.keyHash P (Str.ofString "__module__"), (.str (Str.ofString "__module__") 914), (.str (Str.ofString "switchloom.errors") 860)⟩, ⟨PyData.keyHash P (Str.ofString "__firstlineno__"), (.str (Str.ofString "__firstlineno__") 918), (.int 26 917)⟩, ⟨PyData.keyHash P (Str.ofString "__static_attributes__"), (.str (Str.ofString "__static_attributes__") 919), (.ref 161)⟩, ⟨PyData.keyHash P (Str.ofString "__doc__"), (.str (Str.ofString "__doc__") 920), .none⟩] 2), #[]⟩
noncomputable def o163b (P : Params) : Obj := ⟨(.type "type"), none, (.cls ⟨(Str.ofString "SizeError"), [(.ref 138)], [(.ref 163), (.ref 138), (.type "Exception"), (.type "BaseException"), (.type "object")], 162, (Str.ofString "SizeError"), true, [], [], false, none, false⟩), #[(some (.ref 154)), none, (some (.str (Str.ofString "SizeError") 907)), (some (.str (Str.ofString "SizeError") 915)), (some (.builtin "Exception.__new__")), (some (.bool true))]⟩
noncomputable def o164b (P : Params) : Obj := ⟨(.type "super"), none, (.fields #[(.ref 163), (.ref 163), (.ref 163)]), #[]⟩
noncomputable def o165b (P : Params) : Obj := ⟨(.type "builtin_function_or_method"), none, (.fields #[(.builtin "object.__init_subclass__"), (.ref 163)]), #[]⟩
noncomputable def o166b (P : Params) : Obj := ⟨(.type "tuple"), none, (.seq #[] 0), #[]⟩
noncomputable def o167b (P : Params) : Obj := ⟨.none, none, (.fields #[]), #[]⟩
noncomputable def o168b (P : Params) : Obj := ⟨.none, none, (.func ⟨(Str.ofString "put_number"), (Str.ofString "put_number"), fArgs (stAt 12), .stmts (fBody (stAt 12)), fScope (stAt 12), 0, [], .none, .none, .none, .none, none, .none, .none, 0⟩), #[]⟩
noncomputable def o169b (P : Params) : Obj := ⟨(.type "code"), none, (.fields #[(.str (Str.ofString "put_number") 925), (.str (Str.ofString "put_number") 926), (.str (Str.ofString "/claim/cut.py") 927), (.int 29 0), (.int 2 0), (.int 0 0), (.int 0 0), (.int 3 0), (.ref 166), (.bool true), (.int 181 0), (.ref 167), .none, .none, .none, (.ref 168), (.int 928 0), (.int 29 0), (.str (Str.ofString "/claim/cut.py") 929)]), #[]⟩
noncomputable def o170b (P : Params) : Obj := ⟨(.type "function"), none, (.func ⟨(Str.ofString "put_number"), (Str.ofString "put_number"), fArgs (stAt 12), .stmts (fBody (stAt 12)), fScope (stAt 12), 3, [], .none, .none, .none, (.str (Str.ofString "switchloom.octets") 923), none, (.ref 169), .none, 0⟩), #[]⟩
noncomputable def o171b (P : Params) : Obj := ⟨(.type "tuple"), none, (.seq #[] 0), #[]⟩
noncomputable def o172b (P : Params) : Obj := ⟨.none, none, (.fields #[]), #[]⟩
noncomputable def o173b (P : Params) : Obj := ⟨(.type "tuple"), none, (.seq #[(.str (Str.ofString "octets") 934), (.str (Str.ofString "at") 935), (.str (Str.ofString "many") 936), (.str (Str.ofString "found") 937), (.str (Str.ofString "octet") 938)] 0), #[]⟩
noncomputable def o174b (P : Params) : Obj := ⟨(.type "tuple"), none, (.seq #[] 0), #[]⟩
noncomputable def o175b (P : Params) : Obj := ⟨.none, none, (.func ⟨(Str.ofString "get_number"), (Str.ofString "get_number"), fArgs (stAt 13), .stmts (fBody (stAt 13)), fScope (stAt 13), 0, [], .none, .none, .none, .none, none, .none, .none, 0⟩), #[]⟩
noncomputable def o176b (P : Params) : Obj := ⟨(.type "code"), none, (.fields #[(.str (Str.ofString "get_number") 931), (.str (Str.ofString "get_number") 932), (.str (Str.ofString "/claim/cut.py") 933), (.int 33 0), (.int 3 0), (.int 0 0), (.int 0 0), (.int 3 0), (.ref 171), (.bool true), (.int 181 0), (.ref 172), .none, (.ref 173), (.ref 174), (.ref 175), (.int 939 0), (.int 33 0), (.str (Str.ofString "/claim/cut.py") 940)]), #[]⟩
noncomputable def o177b (P : Params) : Obj := ⟨(.type "function"), none, (.func ⟨(Str.ofString "get_number"), (Str.ofString "get_number"), fArgs (stAt 13), .stmts (fBody (stAt 13)), fScope (stAt 13), 3, [], .none, .none, .none, (.str (Str.ofString "switchloom.octets") 923), none, (.ref 176), .none, 0⟩), #[]⟩
noncomputable def o178b (P : Params) : Obj := ⟨(.type "tuple"), none, (.seq #[] 0), #[]⟩
noncomputable def o179b (P : Params) : Obj := ⟨.none, none, (.fields #[]), #[]⟩
noncomputable def o180b (P : Params) : Obj := ⟨(.type "tuple"), none, (.seq #[(.str (Str.ofString "number") 945)] 0), #[]⟩
noncomputable def o181b (P : Params) : Obj := ⟨(.type "tuple"), none, (.seq #[] 0), #[]⟩
noncomputable def o182b (P : Params) : Obj := ⟨.none, none, (.func ⟨(Str.ofString "put16"), (Str.ofString "put16"), fArgs (stAt 14), .stmts (fBody (stAt 14)), fScope (stAt 14), 0, [], .none, .none, .none, .none, none, .none, .none, 0⟩), #[]⟩
noncomputable def o183b (P : Params) : Obj := ⟨(.type "code"), none, (.fields #[(.str (Str.ofString "put16") 942), (.str (Str.ofString "put16") 943), (.str (Str.ofString "/claim/cut.py") 944), (.int 40 0), (.int 1 0), (.int 0 0), (.int 0 0), (.int 3 0), (.ref 178), (.bool true), (.int 181 0), (.ref 179), .none, (.ref 180), (.ref 181), (.ref 182), (.int 946 0), (.int 40 0), (.str (Str.ofString "/claim/cut.py") 947)]), #[]⟩
noncomputable def o184b (P : Params) : Obj := ⟨(.type "function"), none, (.func ⟨(Str.ofString "put16"), (Str.ofString "put16"), fArgs (stAt 14), .stmts (fBody (stAt 14)), fScope (stAt 14), 3, [], .none, .none, .none, (.str (Str.ofString "switchloom.octets") 923), none, (.ref 183), .none, 0⟩), #[]⟩
noncomputable def o185b (P : Params) : Obj := ⟨(.type "tuple"), none, (.seq #[] 0), #[]⟩
noncomputable def o186b (P : Params) : Obj := ⟨.none, none, (.fields #[]), #[]⟩
noncomputable def o187b (P : Params) : Obj := ⟨(.type "tuple"), none, (.seq #[(.str (Str.ofString "number") 952)] 0), #[]⟩
noncomputable def o188b (P : Params) : Obj := ⟨(.type "tuple"), none, (.seq #[] 0), #[]⟩
noncomputable def o189b (P : Params) : Obj := ⟨.none, none, (.func ⟨(Str.ofString "put48"), (Str.ofString "put48"), fArgs (stAt 15), .stmts (fBody (stAt 15)), fScope (stAt 15), 0, [], .none, .none, .none, .none, none, .none, .none, 0⟩), #[]⟩
noncomputable def o190b (P : Params) : Obj := ⟨(.type "code"), none, (.fields #[(.str (Str.ofString "put48") 949), (.str (Str.ofString "put48") 950), (.str (Str.ofString "/claim/cut.py") 951), (.int 42 0), (.int 1 0), (.int 0 0), (.int 0 0), (.int 3 0), (.ref 185), (.bool true), (.int 181 0), (.ref 186), .none, (.ref 187), (.ref 188), (.ref 189), (.int 953 0), (.int 42 0), (.str (Str.ofString "/claim/cut.py") 954)]), #[]⟩
noncomputable def o191b (P : Params) : Obj := ⟨(.type "function"), none, (.func ⟨(Str.ofString "put48"), (Str.ofString "put48"), fArgs (stAt 15), .stmts (fBody (stAt 15)), fScope (stAt 15), 3, [], .none, .none, .none, (.str (Str.ofString "switchloom.octets") 923), none, (.ref 190), .none, 0⟩), #[]⟩
noncomputable def o192b (P : Params) : Obj := ⟨(.type "tuple"), none, (.seq #[] 0), #[]⟩
noncomputable def o193b (P : Params) : Obj := ⟨.none, none, (.fields #[]), #[]⟩
noncomputable def o194b (P : Params) : Obj := ⟨(.type "tuple"), none, (.seq #[(.str (Str.ofString "octets") 959), (.str (Str.ofString "at") 960)] 0), #[]⟩
noncomputable def o195b (P : Params) : Obj := ⟨(.type "tuple"), none, (.seq #[] 0), #[]⟩
noncomputable def o196b (P : Params) : Obj := ⟨.none, none, (.func ⟨(Str.ofString "get16"), (Str.ofString "get16"), fArgs (stAt 16), .stmts (fBody (stAt 16)), fScope (stAt 16), 0, [], .none, .none, .none, .none, none, .none, .none, 0⟩), #[]⟩
noncomputable def o197b (P : Params) : Obj := ⟨(.type "code"), none, (.fields #[(.str (Str.ofString "get16") 956), (.str (Str.ofString "get16") 957), (.str (Str.ofString "/claim/cut.py") 958), (.int 44 0), (.int 2 0), (.int 0 0), (.int 0 0), (.int 3 0), (.ref 192), (.bool true), (.int 181 0), (.ref 193), .none, (.ref 194), (.ref 195), (.ref 196), (.int 961 0), (.int 44 0), (.str (Str.ofString "/claim/cut.py") 962)]), #[]⟩
noncomputable def o198b (P : Params) : Obj := ⟨(.type "function"), none, (.func ⟨(Str.ofString "get16"), (Str.ofString "get16"), fArgs (stAt 16), .stmts (fBody (stAt 16)), fScope (stAt 16), 3, [], .none, .none, .none, (.str (Str.ofString "switchloom.octets") 923), none, (.ref 197), .none, 0⟩), #[]⟩
noncomputable def o199b (P : Params) : Obj := ⟨(.type "tuple"), none, (.seq #[] 0), #[]⟩
noncomputable def o200b (P : Params) : Obj := ⟨.none, none, (.fields #[]), #[]⟩
noncomputable def o201b (P : Params) : Obj := ⟨(.type "tuple"), none, (.seq #[(.str (Str.ofString "octets") 967), (.str (Str.ofString "at") 968)] 0), #[]⟩
noncomputable def o202b (P : Params) : Obj := ⟨(.type "tuple"), none, (.seq #[] 0), #[]⟩
noncomputable def o203b (P : Params) : Obj := ⟨.none, none, (.func ⟨(Str.ofString "get48"), (Str.ofString "get48"), fArgs (stAt 17), .stmts (fBody (stAt 17)), fScope (stAt 17), 0, [], .none, .none, .none, .none, none, .none, .none, 0⟩), #[]⟩
noncomputable def o204b (P : Params) : Obj := ⟨(.type "code"), none, (.fields #[(.str (Str.ofString "get48") 964), (.str (Str.ofString "get48") 965), (.str (Str.ofString "/claim/cut.py") 966), (.int 46 0), (.int 2 0), (.int 0 0), (.int 0 0), (.int 3 0), (.ref 199), (.bool true), (.int 181 0), (.ref 200), .none, (.ref 201), (.ref 202), (.ref 203), (.int 969 0), (.int 46 0), (.str (Str.ofString "/claim/cut.py") 970)]), #[]⟩
noncomputable def o205b (P : Params) : Obj := ⟨(.type "function"), none, (.func ⟨(Str.ofString "get48"), (Str.ofString "get48"), fArgs (stAt 17), .stmts (fBody (stAt 17)), fScope (stAt 17), 3, [], .none, .none, .none, (.str (Str.ofString "switchloom.octets") 923), none, (.ref 204), .none, 0⟩), #[]⟩
noncomputable def o206b (P : Params) : Obj := ⟨(.type "tuple"), none, (.seq #[(.int 33024 974), (.int 34984 976)] 0), #[]⟩
noncomputable def o3c (P : Params) : Obj := ⟨(.type "dict"), none, (.dict #[⟨PyData.keyHash P (Str.ofString "__name__"), (.str (Str.ofString "__name__") 165), (.str (Str.ofString "law_pf0385_01") 1140)⟩, ⟨PyData.keyHash P (Str.ofString "__doc__"), (.str (Str.ofString "__doc__") 166), .none⟩, ⟨PyData.keyHash P (Str.ofString "__package__"), (.str (Str.ofString "__package__") 167), .none⟩, ⟨PyData.keyHash P (Str.ofString "__loader__"), (.str (Str.ofString "__loader__") 168), (.builtin "__main__.__loader__#opaque")⟩, ⟨PyData.keyHash P (Str.ofString "__spec__"), (.str (Str.ofString "__spec__") 169), .none⟩, ⟨PyData.keyHash P (Str.ofString "__annotations__"), (.str (Str.ofString "__annotations__") 170), (.ref 6)⟩, ⟨PyData.keyHash P (Str.ofString "__builtins__"), (.str (Str.ofString "__builtins__") 171), (.ref 4)⟩, ⟨PyData.keyHash P (Str.ofString "__file__"), (.str (Str.ofString "__file__") 173), (.str (Str.ofString "/claim/cut.py") 172)⟩, ⟨PyData.keyHash P (Str.ofString "__cached__"), (.str (Str.ofString "__cached__") 174), .none⟩, ⟨PyData.keyHash P (Str.ofString "TURNED_POLYNOMIAL"), (.str (Str.ofString "TURNED_POLYNOMIAL") 190), (.int 3988292384 189)⟩, ⟨PyData.keyHash P (Str.ofString "ALL_ONES"), (.str (Str.ofString "ALL_ONES") 192), (.int 4294967295 191)⟩, ⟨PyData.keyHash P (Str.ofString "divided_word"), (.str (Str.ofString "divided_word") 200), (.ref 21)⟩, ⟨PyData.keyHash P (Str.ofString "HALF_TABLE"), (.str (Str.ofString "HALF_TABLE") 844), (.ref 109)⟩, ⟨PyData.keyHash P (Str.ofString "crc32"), (.str (Str.ofString "crc32") 853), (.ref 116)⟩, ⟨PyData.keyHash P (Str.ofString "frame_sum"), (.str (Str.ofString "frame_sum") 859), (.ref 121)⟩, ⟨PyData.keyHash P (Str.ofString "SwitchError"), (.str (Str.ofString "SwitchError") 890), (.ref 138)⟩, ⟨PyData.keyHash P (Str.ofString "FormError"), (.str (Str.ofString "FormError") 906), (.ref 151)⟩, ⟨PyData.keyHash P (Str.ofString "SizeError"), (.str (Str.ofString "SizeError") 922), (.ref 163)⟩, ⟨PyData.keyHash P (Str.ofString "put_number"), (.str (Str.ofString "put_number") 930), (.ref 170)⟩, ⟨PyData.keyHash P (Str.ofString "get_number"), (.str (Str.ofString "get_number") 941), (.ref 177)⟩, ⟨PyData.keyHash P (Str.ofString "put16"), (.str (Str.ofString "put16") 948), (.ref 184)⟩, ⟨PyData.keyHash P (Str.ofString "put48"), (.str (Str.ofString "put48") 955), (.ref 191)⟩, ⟨PyData.keyHash P (Str.ofString "get16"), (.str (Str.ofString "get16") 963), (.ref 198)⟩, ⟨PyData.keyHash P (Str.ofString "get48"), (.str (Str.ofString "get48") 971), (.ref 205)⟩, ⟨PyData.keyHash P (Str.ofString "CUSTOMER_KIND"), (.str (Str.ofString "CUSTOMER_KIND") 975), (.int 33024 974)⟩, ⟨PyData.keyHash P (Str.ofString "PROVIDER_KIND"), (.str (Str.ofString "PROVIDER_KIND") 977), (.int 34984 976)⟩, ⟨PyData.keyHash P (Str.ofString "TAG_KINDS"), (.str (Str.ofString "TAG_KINDS") 978), (.ref 206)⟩, ⟨PyData.keyHash P (Str.ofString "FIRST_KIND"), (.str (Str.ofString "FIRST_KIND") 980), (.int 1536 979)⟩, ⟨PyData.keyHash P (Str.ofString "MOST_LENGTH"), (.str (Str.ofString "MOST_LENGTH") 982), (.int 1500 981)⟩, ⟨PyData.keyHash P (Str.ofString "MOST_TAGS"), (.str (Str.ofString "MOST_TAGS") 984), (.int 4 983)⟩, ⟨PyData.keyHash P (Str.ofString "NO_VLAN"), (.str (Str.ofString "NO_VLAN") 986), (.int 4095 985)⟩, ⟨PyData.keyHash P (Str.ofString "HEAD_SIZE"), (.str (Str.ofString "HEAD_SIZE") 988), (.int 14 987)⟩, ⟨PyData.keyHash P (Str.ofString "TAG_SIZE"), (.str (Str.ofString "TAG_SIZE") 990), (.int 4 989)⟩, ⟨PyData.keyHash P (Str.ofString "SUM_SIZE"), (.str (Str.ofString "SUM_SIZE") 992), (.int 4 991)⟩, ⟨PyData.keyHash P (Str.ofString "LEAST_SIZE"), (.str (Str.ofString "LEAST_SIZE") 994), (.int 60 993)⟩, ⟨PyData.keyHash P (Str.ofString "Tag"), (.str (Str.ofString "Tag") 1036), (.ref 230)⟩, ⟨PyData.keyHash P (Str.ofString "Frame"), (.str (Str.ofString "Frame") 1087), (.ref 264)⟩, ⟨PyData.keyHash P (Str.ofString "pack_tag"), (.str (Str.ofString "pack_tag") 1094), (.ref 275)⟩, ⟨PyData.keyHash P (Str.ofString "pack_kind"), (.str (Str.ofString "pack_kind") 1101), (.ref 282)⟩, ⟨PyData.keyHash P (Str.ofString "pack_frame"), (.str (Str.ofString "pack_frame") 1107), (.ref 288)⟩, ⟨PyData.keyHash P (Str.ofString "unpack_tag"), (.str (Str.ofString "unpack_tag") 1116), (.ref 295)⟩, ⟨PyData.keyHash P (Str.ofString "unpack_tags"), (.str (Str.ofString "unpack_tags") 1125), (.ref 302)⟩, ⟨PyData.keyHash P (Str.ofString "unpack_frame"), (.str (Str.ofString "unpack_frame") 1139), (.ref 310)⟩, ⟨PyData.keyHash P (Str.ofString "_law_pool"), (.str (Str.ofString "_law_pool") 1152), (.ref 317)⟩, ⟨PyData.keyHash P (Str.ofString "_law_take"), (.str (Str.ofString "_law_take") 1161), (.ref 324)⟩, ⟨PyData.keyHash P (Str.ofString "_law_one"), (.str (Str.ofString "_law_one") 1169), (.ref 331)⟩, ⟨PyData.keyHash P (Str.ofString "_law_heard"), (.str (Str.ofString "_law_heard") 1176), (.ref 338)⟩, ⟨PyData.keyHash P (Str.ofString "_law_kinds_right"), (.str (Str.ofString "_law_kinds_right") 1186), (.ref 345)⟩, ⟨PyData.keyHash P (Str.ofString "_law_tags_right"), (.str (Str.ofString "_law_tags_right") 1201), (.ref 352)⟩, ⟨PyData.keyHash P (Str.ofString "_law_frame"), (.str (Str.ofString "_law_frame") 1207), (.ref 357)⟩, ⟨PyData.keyHash P (Str.ofString "_law_most_right"), (.str (Str.ofString "_law_most_right") 1222), (.ref 364)⟩, ⟨PyData.keyHash P (Str.ofString "_law_greatest_right"), (.str (Str.ofString "_law_greatest_right") 1235), (.ref 371)⟩, ⟨PyData.keyHash P (Str.ofString "law"), (.str (Str.ofString "law") 1245), (.ref 378)⟩] 53), #[]⟩
noncomputable def o12c (P : Params) : Obj := ⟨.none, none, (.fields #[(.int 4 0), (.int 0 0), (.ref 20), (.int 9 0), (.int 0 0), (.ref 115), (.int 15 0), (.int 0 0), (.ref 120), (.int 19 0), (.int 0 0), (.ref 127), (.int 24 0), (.int 0 0), (.ref 147), (.int 26 0), (.int 0 0), (.ref 159), (.int 29 0), (.int 0 0), (.ref 169), (.int 33 0), (.int 0 0), (.ref 176), (.int 40 0), (.int 0 0), (.ref 183), (.int 42 0), (.int 0 0), (.ref 190), (.int 44 0), (.int 0 0), (.ref 197), (.int 46 0), (.int 0 0), (.ref 204), (.int 60 0), (.int 0 0), (.ref 212), (.int 70 0), (.int 0 0), (.ref 240), (.int 84 0), (.int 0 0), (.ref 274), (.int 88 0), (.int 0 0), (.ref 281), (.int 96 0), (.int 0 0), (.ref 287), (.int 103 0), (.int 0 0), (.ref 294), (.int 108 0), (.int 0 0), (.ref 301), (.int 116 0), (.int 0 0), (.ref 309), (.int 132 0), (.int 0 0), (.ref 316), (.int 137 0), (.int 0 0), (.ref 323), (.int 144 0), (.int 0 0), (.ref 330), (.int 146 0), (.int 0 0), (.ref 337), (.int 153 0), (.int 0 0), (.ref 344), (.int 161 0), (.int 0 0), (.ref 351), (.int 173 0), (.int 0 0), (.ref 356), (.int 176 0), (.int 0 0), (.ref 363), (.int 192 0), (.int 0 0), (.ref 370), (.int 203 0), (.int 0 0), (.ref 377)]), #[]⟩
noncomputable def o207c (P : Params) : Obj := ⟨(.type "tuple"), none, (.seq #[] 0), #[]⟩
noncomputable def o208c (P : Params) : Obj := ⟨(.type "builtin_function_or_method"), none, (.fields #[(.builtin "type.__prepare__"), (.type "type")]), #[]⟩
noncomputable def o209c (P : Params) : Obj := ⟨(.type "dict"), none, (.dict #[⟨PyData.keyHash P (Str.ofString "__module__"), (.str (Str.ofString "__module__") 1002), (.str (Str.ofString "switchloom.frames") 972)⟩, ⟨PyData.keyHash P (Str.ofString "__qualname__"), (.str (Str.ofString "__qualname__") 1004), (.str (Str.ofString "Tag") 1003)⟩, ⟨PyData.keyHash P (Str.ofString "__firstlineno__"), (.str (Str.ofString "__firstlineno__") 1006), (.int 60 1005)⟩, ⟨PyData.keyHash P (Str.ofString "__init__"), (.str (Str.ofString "__init__") 1017), (.ref 220)⟩, ⟨PyData.keyHash P (Str.ofString "told"), (.str (Str.ofString "told") 1024), (.ref 227)⟩, ⟨PyData.keyHash P (Str.ofString "__static_attributes__"), (.str (Str.ofString "__static_attributes__") 1029), (.ref 228)⟩] 6), #[]⟩
noncomputable def o210c (P : Params) : Obj := ⟨(.type "tuple"), none, (.seq #[] 0), #[]⟩
noncomputable def o211c (P : Params) : Obj := ⟨.none, none, (.fields #[(.int 62 0), (.int 4 0), (.ref 219), (.int 68 0), (.int 4 0), (.ref 226)]), #[]⟩
noncomputable def o212c (P : Params) : Obj := ⟨(.type "code"), none, (.fields #[(.str (Str.ofString "Tag") 997), (.str (Str.ofString "Tag") 998), (.str (Str.ofString "/claim/cut.py") 999), (.int 60 0), (.int 0 0), (.int 0 0), (.int 0 0), (.int 0 0), (.ref 210), (.bool false), (.int 181 0), (.ref 211), .none, .none, .none, .none, (.int 1000 0), (.int 60 0), (.str (Str.ofString "/claim/cut.py") 1001)]), #[]⟩
noncomputable def o213c (P : Params) : Obj := ⟨(.type "frame"), none, .plain, #[(some (.ref 212)), (some (.ref 3)), (some (.ref 209)), none, (some (.str (Str.ofString "switchloom.frames") 972)), none, (some (.ref 0))]⟩
noncomputable def o214c (P : Params) : Obj := ⟨(.type "tuple"), none, (.seq #[] 0), #[]⟩
noncomputable def o215c (P : Params) : Obj := ⟨.none, none, (.fields #[]), #[]⟩
noncomputable def o216c (P : Params) : Obj := ⟨(.type "tuple"), none, (.seq #[(.str (Str.ofString "self") 1010), (.str (Str.ofString "kind") 1011), (.str (Str.ofString "priority") 1012), (.str (Str.ofString "may_drop") 1013), (.str (Str.ofString "vlan") 1014)] 0), #[]⟩
noncomputable def o217c (P : Params) : Obj := ⟨(.type "tuple"), none, (.seq #[] 0), #[]⟩
noncomputable def o218c (P : Params) : Obj := ⟨.none, none, (.func ⟨(Str.ofString "__init__"), (Str.ofString "Tag.__init__"), fArgs (inAt 30 0), .stmts (fBody (inAt 30 0)), fScope (inAt 30 0), 0, [], .none, .none, .none, .none, none, .none, .none, 0⟩), #[]⟩
noncomputable def o219c (P : Params) : Obj := ⟨(.type "code"), none, (.fields #[(.str (Str.ofString "__init__") 1007), (.str (Str.ofString "Tag.__init__") 1008), (.str (Str.ofString "/claim/cut.py") 1009), (.int 62 0), (.int 5 0), (.int 0 0), (.int 0 0), (.int 3 0), (.ref 214), (.bool true), (.int 181 0), (.ref 215), .none, (.ref 216), (.ref 217), (.ref 218), (.int 1015 0), (.int 62 0), (.str (Str.ofString "/claim/cut.py") 1016)]), #[]⟩
noncomputable def o220c (P : Params) : Obj := ⟨(.type "function"), none, (.func ⟨(Str.ofString "__init__"), (Str.ofString "Tag.__init__"), fArgs (inAt 30 0), .stmts (fBody (inAt 30 0)), fScope (inAt 30 0), 3, [], .none, .none, .none, (.str (Str.ofString "switchloom.frames") 972), none, (.ref 219), .none, 0⟩), #[]⟩
noncomputable def o221c (P : Params) : Obj := ⟨(.type "tuple"), none, (.seq #[] 0), #[]⟩
noncomputable def o222c (P : Params) : Obj := ⟨.none, none, (.fields #[]), #[]⟩
noncomputable def o223c (P : Params) : Obj := ⟨(.type "tuple"), none, (.seq #[(.str (Str.ofString "self") 1021)] 0), #[]⟩
noncomputable def o224c (P : Params) : Obj := ⟨(.type "tuple"), none, (.seq #[] 0), #[]⟩
noncomputable def o225c (P : Params) : Obj := ⟨.none, none, (.func ⟨(Str.ofString "told"), (Str.ofString "Tag.told"), fArgs (inAt 30 1), .stmts (fBody (inAt 30 1)), fScope (inAt 30 1), 0, [], .none, .none, .none, .none, none, .none, .none, 0⟩), #[]⟩
noncomputable def o226c (P : Params) : Obj := ⟨(.type "code"), none, (.fields #[(.str (Str.ofString "told") 1018), (.str (Str.ofString "Tag.told") 1019), (.str (Str.ofString "/claim/cut.py") 1020), (.int 68 0), (.int 1 0), (.int 0 0), (.int 0 0), (.int 3 0), (.ref 221), (.bool true), (.int 181 0), (.ref 222), .none, (.ref 223), (.ref 224), (.ref 225), (.int 1022 0), (.int 68 0), (.str (Str.ofString "/claim/cut.py") 1023)]), #[]⟩
noncomputable def o227c (P : Params) : Obj := ⟨(.type "function"), none, (.func ⟨(Str.ofString "told"), (Str.ofString "Tag.told"), fArgs (inAt 30 1), .stmts (fBody (inAt 30 1)), fScope (inAt 30 1), 3, [], .none, .none, .none, (.str (Str.ofString "switchloom.frames") 972), none, (.ref 226), .none, 0⟩), #[]⟩
noncomputable def o228c (P : Params) : Obj := ⟨(.type "tuple"), none, (.seq #[(.str (Str.ofString "kind") 1025), (.str (Str.ofString "may_drop") 1026), (.str (Str.ofString "priority") 1027), (.str (Str.ofString "vlan") 1028)] 0), #[]⟩
noncomputable def o229c (P : Params) : Obj := ⟨(.type "dict"), none, (.dict #[⟨PyData.keyHash P (Str.ofString "__module__"), (.str (Str.ofString "__module__") 1002), (.str (Str.ofString "switchloom.frames") 972)⟩, ⟨PyData.keyHash P (Str.ofString "__firstlineno__"), (.str (Str.ofString "__firstlineno__") 1006), (.int 60 1005)⟩, ⟨PyData.keyHash P (Str.ofString "__init__"), (.str (Str.ofString "__init__") 1017), (.ref 220)⟩, ⟨PyData.keyHash P (Str.ofString "told"), (.str (Str.ofString "told") 1024), (.ref 227)⟩, ⟨PyData.keyHash P (Str.ofString "__static_attributes__"), (.str (Str.ofString "__static_attributes__") 1029), (.ref 228)⟩, ⟨PyData.keyHash P (Str.ofString "__dict__"), (.str (Str.ofString "__dict__") 1031), (.ref 231)⟩, ⟨PyData.keyHash P (Str.ofString "__weakref__"), (.str (Str.ofString "__weakref__") 1033), (.ref 232)⟩, ⟨PyData.keyHash P (Str.ofString "__doc__"), (.str (Str.ofString "__doc__") 1034), .none⟩] 4), #[]⟩
noncomputable def o230c (P : Params) : Obj := ⟨(.type "type"), none, (.cls ⟨(Str.ofString "Tag"), [(.type "object")], [(.ref 230), (.type "object")], 229, (Str.ofString "Tag"), true, [], [], false, none, false⟩), #[none, none, (some (.str (Str.ofString "Tag") 995)), (some (.str (Str.ofString "Tag") 1003)), (some (.builtin "object.__new__")), (some (.bool true))]⟩
noncomputable def o231c (P : Params) : Obj := ⟨(.type "getset_descriptor"), none, (.fields #[(.str (Str.ofString "__dict__") 1030), (.ref 230), (.builtin "function.__dict__"), (.builtin "function.__dict__#set")]), #[]⟩
noncomputable def o232c (P : Params) : Obj := ⟨(.type "getset_descriptor"), none, (.fields #[(.str (Str.ofString "__weakref__") 1032), (.ref 230), (.builtin "ExceptionGroup.__weakref__"), .none]), #[]⟩
noncomputable def o233c (P : Params) : Obj := ⟨(.type "super"), none, (.fields #[(.ref 230), (.ref 230), (.ref 230)]), #[]⟩
noncomputable def o234c (P : Params) : Obj := ⟨(.type "builtin_function_or_method"), none, (.fields #[(.builtin "object.__init_subclass__"), (.ref 230)]), #[]⟩
noncomputable def o235c (P : Params) : Obj := ⟨(.type "tuple"), none, (.seq #[] 0), #[]⟩
noncomputable def o236c (P : Params) : Obj := ⟨(.type "builtin_function_or_method"), none, (.fields #[(.builtin "type.__prepare__"), (.type "type")]), #[]⟩
noncomputable def o237c (P : Params) : Obj := ⟨(.type "dict"), none, (.dict #[⟨PyData.keyHash P (Str.ofString "__module__"), (.str (Str.ofString "__module__") 1044), (.str (Str.ofString "switchloom.frames") 972)⟩, ⟨PyData.keyHash P (Str.ofString "__qualname__"), (.str (Str.ofString "__qualname__") 1046), (.str (Str.ofString "Frame") 1045)⟩, ⟨PyData.keyHash P (Str.ofString "__firstlineno__"), (.str (Str.ofString "__firstlineno__") 1048), (.int 70 1047)⟩, ⟨PyData.keyHash P (Str.ofString "__init__"), (.str (Str.ofString "__init__") 1060), (.ref 248)⟩, ⟨PyData.keyHash P (Str.ofString "told"), (.str (Str.ofString "told") 1066), (.ref 253)⟩, ⟨PyData.keyHash P (Str.ofString "size"), (.str (Str.ofString "size") 1074), (.ref 261)⟩, ⟨PyData.keyHash P (Str.ofString "__static_attributes__"), (.str (Str.ofString "__static_attributes__") 1080), (.ref 262)⟩] 7), #[]⟩
noncomputable def o238c (P : Params) : Obj := ⟨(.type "tuple"), none, (.seq #[] 0), #[]⟩
noncomputable def o239c (P : Params) : Obj := ⟨.none, none, (.fields #[(.int 72 0), (.int 4 0), (.ref 247), (.int 79 0), (.int 4 0), (.ref 252), (.int 82 0), (.int 4 0), (.ref 260)]), #[]⟩
noncomputable def o240c (P : Params) : Obj := ⟨(.type "code"), none, (.fields #[(.str (Str.ofString "Frame") 1039), (.str (Str.ofString "Frame") 1040), (.str (Str.ofString "/claim/cut.py") 1041), (.int 70 0), (.int 0 0), (.int 0 0), (.int 0 0), (.int 0 0), (.ref 238), (.bool false), (.int 181 0), (.ref 239), .none, .none, .none, .none, (.int 1042 0), (.int 70 0), (.str (Str.ofString "/claim/cut.py") 1043)]), #[]⟩
noncomputable def o241c (P : Params) : Obj := ⟨(.type "frame"), none, .plain, #[(some (.ref 240)), (some (.ref 3)), (some (.ref 237)), none, (some (.str (Str.ofString "switchloom.frames") 972)), none, (some (.ref 0))]⟩
noncomputable def o242c (P : Params) : Obj := ⟨(.type "tuple"), none, (.seq #[] 0), #[]⟩
noncomputable def o243c (P : Params) : Obj := ⟨.none, none, (.fields #[]), #[]⟩
noncomputable def o244c (P : Params) : Obj := ⟨(.type "tuple"), none, (.seq #[(.str (Str.ofString "self") 1052), (.str (Str.ofString "target") 1053), (.str (Str.ofString "source") 1054), (.str (Str.ofString "tags") 1055), (.str (Str.ofString "kind") 1056), (.str (Str.ofString "payload") 1057)] 0), #[]⟩
noncomputable def o245c (P : Params) : Obj := ⟨(.type "tuple"), none, (.seq #[] 0), #[]⟩
noncomputable def o246c (P : Params) : Obj := ⟨.none, none, (.func ⟨(Str.ofString "__init__"), (Str.ofString "Frame.__init__"), fArgs (inAt 31 0), .stmts (fBody (inAt 31 0)), fScope (inAt 31 0), 0, [], .none, .none, .none, .none, none, .none, .none, 0⟩), #[]⟩
noncomputable def o247c (P : Params) : Obj := ⟨(.type "code"), none, (.fields #[(.str (Str.ofString "__init__") 1049), (.str (Str.ofString "Frame.__init__") 1050), (.str (Str.ofString "/claim/cut.py") 1051), (.int 72 0), (.int 6 0), (.int 0 0), (.int 0 0), (.int 3 0), (.ref 242), (.bool true), (.int 181 0), (.ref 243), .none, (.ref 244), (.ref 245), (.ref 246), (.int 1058 0), (.int 72 0), (.str (Str.ofString "/claim/cut.py") 1059)]), #[]⟩
noncomputable def o248c (P : Params) : Obj := ⟨(.type "function"), none, (.func ⟨(Str.ofString "__init__"), (Str.ofString "Frame.__init__"), fArgs (inAt 31 0), .stmts (fBody (inAt 31 0)), fScope (inAt 31 0), 3, [], .none, .none, .none, (.str (Str.ofString "switchloom.frames") 972), none, (.ref 247), .none, 0⟩), #[]⟩
noncomputable def o249c (P : Params) : Obj := ⟨(.type "tuple"), none, (.seq #[] 0), #[]⟩
noncomputable def o250c (P : Params) : Obj := ⟨.none, none, (.fields #[]), #[]⟩
noncomputable def o251c (P : Params) : Obj := ⟨.none, none, (.func ⟨(Str.ofString "told"), (Str.ofString "Frame.told"), fArgs (inAt 31 1), .stmts (fBody (inAt 31 1)), fScope (inAt 31 1), 0, [], .none, .none, .none, .none, none, .none, .none, 0⟩), #[]⟩
noncomputable def o252c (P : Params) : Obj := ⟨(.type "code"), none, (.fields #[(.str (Str.ofString "told") 1061), (.str (Str.ofString "Frame.told") 1062), (.str (Str.ofString "/claim/cut.py") 1063), (.int 79 0), (.int 1 0), (.int 0 0), (.int 0 0), (.int 3 0), (.ref 249), (.bool true), (.int 181 0), (.ref 250), .none, .none, .none, (.ref 251), (.int 1064 0), (.int 79 0), (.str (Str.ofString "/claim/cut.py") 1065)]), #[]⟩
noncomputable def o253c (P : Params) : Obj := ⟨(.type "function"), none, (.func ⟨(Str.ofString "told"), (Str.ofString "Frame.told"), fArgs (inAt 31 1), .stmts (fBody (inAt 31 1)), fScope (inAt 31 1), 3, [], .none, .none, .none, (.str (Str.ofString "switchloom.frames") 972), none, (.ref 252), .none, 0⟩), #[]⟩
noncomputable def o254c (P : Params) : Obj := ⟨(.type "tuple"), none, (.seq #[(.int 60 993)] 0), #[]⟩
noncomputable def o255c (P : Params) : Obj := ⟨(.type "tuple"), none, (.seq #[] 0), #[]⟩
noncomputable def o256c (P : Params) : Obj := ⟨.none, none, (.fields #[]), #[]⟩
noncomputable def o257c (P : Params) : Obj := ⟨(.type "tuple"), none, (.seq #[(.str (Str.ofString "self") 1070), (.str (Str.ofString "least") 1071)] 0), #[]⟩
noncomputable def o258c (P : Params) : Obj := ⟨(.type "tuple"), none, (.seq #[] 0), #[]⟩
noncomputable def o259c (P : Params) : Obj := ⟨.none, none, (.func ⟨(Str.ofString "size"), (Str.ofString "Frame.size"), fArgs (inAt 31 2), .stmts (fBody (inAt 31 2)), fScope (inAt 31 2), 0, [], .none, .none, .none, .none, none, .none, .none, 0⟩), #[]⟩
noncomputable def o260c (P : Params) : Obj := ⟨(.type "code"), none, (.fields #[(.str (Str.ofString "size") 1067), (.str (Str.ofString "Frame.size") 1068), (.str (Str.ofString "/claim/cut.py") 1069), (.int 82 0), (.int 2 0), (.int 0 0), (.int 0 0), (.int 3 0), (.ref 255), (.bool true), (.int 181 0), (.ref 256), .none, (.ref 257), (.ref 258), (.ref 259), (.int 1072 0), (.int 82 0), (.str (Str.ofString "/claim/cut.py") 1073)]), #[]⟩
noncomputable def o261c (P : Params) : Obj := ⟨(.type "function"), none, (.func ⟨(Str.ofString "size"), (Str.ofString "Frame.size"), fArgs (inAt 31 2), .stmts (fBody (inAt 31 2)), fScope (inAt 31 2), 3, [], (.ref 254), .none, .none, (.str (Str.ofString "switchloom.frames") 972), none, (.ref 260), .none, 0⟩), #[]⟩
noncomputable def o262c (P : Params) : Obj := ⟨(.type "tuple"), none, (.seq #[(.str (Str.ofString "kind") 1075), (.str (Str.ofString "payload") 1076), (.str (Str.ofString "source") 1077), (.str (Str.ofString "tags") 1078), (.str (Str.ofString "target") 1079)] 0), #[]⟩
noncomputable def o263c (P : Params) : Obj := ⟨(.type "dict"), none, (.dict #[⟨PyData.keyHash P (Str.ofString "__module__"), (.str (Str.ofString "__module__") 1044), (.str (Str.ofString "switchloom.frames") 972)⟩, ⟨PyData.keyHash P (Str.ofString "__firstlineno__"), (.str (Str.ofString "__firstlineno__") 1048), (.int 70 1047)⟩, ⟨PyData.keyHash P (Str.ofString "__init__"), (.str (Str.ofString "__init__") 1060), (.ref 248)⟩, ⟨PyData.keyHash P (Str.ofString "told"), (.str (Str.ofString "told") 1066), (.ref 253)⟩, ⟨PyData.keyHash P (Str.ofString "size"), (.str (Str.ofString "size") 1074), (.ref 261)⟩, ⟨PyData.keyHash P (Str.ofString "__static_attributes__"), (.str (Str.ofString "__static_attributes__") 1080), (.ref 262)⟩, ⟨PyData.keyHash P (Str.ofString "__dict__"), (.str (Str.ofString "__dict__") 1082), (.ref 265)⟩, ⟨PyData.keyHash P (Str.ofString "__weakref__"), (.str (Str.ofString "__weakref__") 1084), (.ref 266)⟩, ⟨PyData.keyHash P (Str.ofString "__doc__"), (.str (Str.ofString "__doc__") 1085), .none⟩] 4), #[]⟩
noncomputable def o264c (P : Params) : Obj := ⟨(.type "type"), none, (.cls ⟨(Str.ofString "Frame"), [(.type "object")], [(.ref 264), (.type "object")], 263, (Str.ofString "Frame"), true, [], [], false, none, false⟩), #[none, none, (some (.str (Str.ofString "Frame") 1037)), (some (.str (Str.ofString "Frame") 1045)), (some (.builtin "object.__new__")), (some (.bool true))]⟩
noncomputable def o265c (P : Params) : Obj := ⟨(.type "getset_descriptor"), none, (.fields #[(.str (Str.ofString "__dict__") 1081), (.ref 264), (.builtin "function.__dict__"), (.builtin "function.__dict__#set")]), #[]⟩
noncomputable def o266c (P : Params) : Obj := ⟨(.type "getset_descriptor"), none, (.fields #[(.str (Str.ofString "__weakref__") 1083), (.ref 264), (.builtin "ExceptionGroup.__weakref__"), .none]), #[]⟩
noncomputable def o267c (P : Params) : Obj := ⟨(.type "super"), none, (.fields #[(.ref 264), (.ref 264), (.ref 264)]), #[]⟩
noncomputable def o268c (P : Params) : Obj := ⟨(.type "builtin_function_or_method"), none, (.fields #[(.builtin "object.__init_subclass__"), (.ref 264)]), #[]⟩
noncomputable def o269c (P : Params) : Obj := ⟨(.type "tuple"), none, (.seq #[] 0), #[]⟩
noncomputable def o270c (P : Params) : Obj := ⟨.none, none, (.fields #[]), #[]⟩
noncomputable def o271c (P : Params) : Obj := ⟨(.type "tuple"), none, (.seq #[(.str (Str.ofString "tag") 1091)] 0), #[]⟩
noncomputable def o272c (P : Params) : Obj := ⟨(.type "tuple"), none, (.seq #[] 0), #[]⟩
noncomputable def o273c (P : Params) : Obj := ⟨.none, none, (.func ⟨(Str.ofString "pack_tag"), (Str.ofString "pack_tag"), fArgs (stAt 32), .stmts (fBody (stAt 32)), fScope (stAt 32), 0, [], .none, .none, .none, .none, none, .none, .none, 0⟩), #[]⟩
noncomputable def o274c (P : Params) : Obj := ⟨(.type "code"), none, (.fields #[(.str (Str.ofString "pack_tag") 1088), (.str (Str.ofString "pack_tag") 1089), (.str (Str.ofString "/claim/cut.py") 1090), (.int 84 0), (.int 1 0), (.int 0 0), (.int 0 0), (.int 3 0), (.ref 269), (.bool true), (.int 181 0), (.ref 270), .none, (.ref 271), (.ref 272), (.ref 273), (.int 1092 0), (.int 84 0), (.str (Str.ofString "/claim/cut.py") 1093)]), #[]⟩
noncomputable def o275c (P : Params) : Obj := ⟨(.type "function"), none, (.func ⟨(Str.ofString "pack_tag"), (Str.ofString "pack_tag"), fArgs (stAt 32), .stmts (fBody (stAt 32)), fScope (stAt 32), 3, [], .none, .none, .none, (.str (Str.ofString "switchloom.frames") 972), none, (.ref 274), .none, 0⟩), #[]⟩
noncomputable def o276c (P : Params) : Obj := ⟨(.type "tuple"), none, (.seq #[] 0), #[]⟩
noncomputable def o277c (P : Params) : Obj := ⟨.none, none, (.fields #[]), #[]⟩
noncomputable def o278c (P : Params) : Obj := ⟨(.type "tuple"), none, (.seq #[(.str (Str.ofString "frame") 1098)] 0), #[]⟩
noncomputable def o279c (P : Params) : Obj := ⟨(.type "tuple"), none, (.seq #[] 0), #[]⟩
noncomputable def o280c (P : Params) : Obj := ⟨.none, none, (.func ⟨(Str.ofString "pack_kind"), (Str.ofString "pack_kind"), fArgs (stAt 33), .stmts (fBody (stAt 33)), fScope (stAt 33), 0, [], .none, .none, .none, .none, none, .none, .none, 0⟩), #[]⟩
noncomputable def o281c (P : Params) : Obj := ⟨(.type "code"), none, (.fields #[(.str (Str.ofString "pack_kind") 1095), (.str (Str.ofString "pack_kind") 1096), (.str (Str.ofString "/claim/cut.py") 1097), (.int 88 0), (.int 1 0), (.int 0 0), (.int 0 0), (.int 3 0), (.ref 276), (.bool true), (.int 181 0), (.ref 277), .none, (.ref 278), (.ref 279), (.ref 280), (.int 1099 0), (.int 88 0), (.str (Str.ofString "/claim/cut.py") 1100)]), #[]⟩
noncomputable def o282c (P : Params) : Obj := ⟨(.type "function"), none, (.func ⟨(Str.ofString "pack_kind"), (Str.ofString "pack_kind"), fArgs (stAt 33), .stmts (fBody (stAt 33)), fScope (stAt 33), 3, [], .none, .none, .none, (.str (Str.ofString "switchloom.frames") 972), none, (.ref 281), .none, 0⟩), #[]⟩
noncomputable def o283c (P : Params) : Obj := ⟨(.type "tuple"), none, (.seq #[(.int 60 993)] 0), #[]⟩
noncomputable def o284c (P : Params) : Obj := ⟨(.type "tuple"), none, (.seq #[] 0), #[]⟩
noncomputable def o285c (P : Params) : Obj := ⟨.none, none, (.fields #[]), #[]⟩
noncomputable def o286c (P : Params) : Obj := ⟨.none, none, (.func ⟨(Str.ofString "pack_frame"), (Str.ofString "pack_frame"), fArgs (stAt 34), .stmts (fBody (stAt 34)), fScope (stAt 34), 0, [], .none, .none, .none, .none, none, .none, .none, 0⟩), #[]⟩
noncomputable def o287c (P : Params) : Obj := ⟨(.type "code"), none, (.fields #[(.str (Str.ofString "pack_frame") 1102), (.str (Str.ofString "pack_frame") 1103), (.str (Str.ofString "/claim/cut.py") 1104), (.int 96 0), (.int 2 0), (.int 0 0), (.int 0 0), (.int 3 0), (.ref 284), (.bool true), (.int 181 0), (.ref 285), .none, .none, .none, (.ref 286), (.int 1105 0), (.int 96 0), (.str (Str.ofString "/claim/cut.py") 1106)]), #[]⟩
noncomputable def o288c (P : Params) : Obj := ⟨(.type "function"), none, (.func ⟨(Str.ofString "pack_frame"), (Str.ofString "pack_frame"), fArgs (stAt 34), .stmts (fBody (stAt 34)), fScope (stAt 34), 3, [], (.ref 283), .none, .none, (.str (Str.ofString "switchloom.frames") 972), none, (.ref 287), .none, 0⟩), #[]⟩
noncomputable def o289c (P : Params) : Obj := ⟨(.type "tuple"), none, (.seq #[] 0), #[]⟩
noncomputable def o290c (P : Params) : Obj := ⟨.none, none, (.fields #[]), #[]⟩
noncomputable def o291c (P : Params) : Obj := ⟨(.type "tuple"), none, (.seq #[(.str (Str.ofString "octets") 1111), (.str (Str.ofString "at") 1112), (.str (Str.ofString "word") 1113)] 0), #[]⟩
noncomputable def o292c (P : Params) : Obj := ⟨(.type "tuple"), none, (.seq #[] 0), #[]⟩
noncomputable def o293c (P : Params) : Obj := ⟨.none, none, (.func ⟨(Str.ofString "unpack_tag"), (Str.ofString "unpack_tag"), fArgs (stAt 35), .stmts (fBody (stAt 35)), fScope (stAt 35), 0, [], .none, .none, .none, .none, none, .none, .none, 0⟩), #[]⟩
noncomputable def o294c (P : Params) : Obj := ⟨(.type "code"), none, (.fields #[(.str (Str.ofString "unpack_tag") 1108), (.str (Str.ofString "unpack_tag") 1109), (.str (Str.ofString "/claim/cut.py") 1110), (.int 103 0), (.int 2 0), (.int 0 0), (.int 0 0), (.int 3 0), (.ref 289), (.bool true), (.int 181 0), (.ref 290), .none, (.ref 291), (.ref 292), (.ref 293), (.int 1114 0), (.int 103 0), (.str (Str.ofString "/claim/cut.py") 1115)]), #[]⟩
noncomputable def o295c (P : Params) : Obj := ⟨(.type "function"), none, (.func ⟨(Str.ofString "unpack_tag"), (Str.ofString "unpack_tag"), fArgs (stAt 35), .stmts (fBody (stAt 35)), fScope (stAt 35), 3, [], .none, .none, .none, (.str (Str.ofString "switchloom.frames") 972), none, (.ref 294), .none, 0⟩), #[]⟩
noncomputable def o296c (P : Params) : Obj := ⟨(.type "tuple"), none, (.seq #[] 0), #[]⟩
noncomputable def o297c (P : Params) : Obj := ⟨.none, none, (.fields #[]), #[]⟩
noncomputable def o298c (P : Params) : Obj := ⟨(.type "tuple"), none, (.seq #[(.str (Str.ofString "octets") 1120), (.str (Str.ofString "at") 1121), (.str (Str.ofString "found") 1122)] 0), #[]⟩
noncomputable def o299c (P : Params) : Obj := ⟨(.type "tuple"), none, (.seq #[] 0), #[]⟩
noncomputable def o300c (P : Params) : Obj := ⟨.none, none, (.func ⟨(Str.ofString "unpack_tags"), (Str.ofString "unpack_tags"), fArgs (stAt 36), .stmts (fBody (stAt 36)), fScope (stAt 36), 0, [], .none, .none, .none, .none, none, .none, .none, 0⟩), #[]⟩
noncomputable def o301c (P : Params) : Obj := ⟨(.type "code"), none, (.fields #[(.str (Str.ofString "unpack_tags") 1117), (.str (Str.ofString "unpack_tags") 1118), (.str (Str.ofString "/claim/cut.py") 1119), (.int 108 0), (.int 2 0), (.int 0 0), (.int 0 0), (.int 3 0), (.ref 296), (.bool true), (.int 181 0), (.ref 297), .none, (.ref 298), (.ref 299), (.ref 300), (.int 1123 0), (.int 108 0), (.str (Str.ofString "/claim/cut.py") 1124)]), #[]⟩
noncomputable def o302c (P : Params) : Obj := ⟨(.type "function"), none, (.func ⟨(Str.ofString "unpack_tags"), (Str.ofString "unpack_tags"), fArgs (stAt 36), .stmts (fBody (stAt 36)), fScope (stAt 36), 3, [], .none, .none, .none, (.str (Str.ofString "switchloom.frames") 972), none, (.ref 301), .none, 0⟩), #[]⟩
noncomputable def o303c (P : Params) : Obj := ⟨(.type "tuple"), none, (.seq #[(.int 1522 1126)] 0), #[]⟩
noncomputable def o304c (P : Params) : Obj := ⟨(.type "tuple"), none, (.seq #[] 0), #[]⟩
noncomputable def o305c (P : Params) : Obj := ⟨.none, none, (.fields #[]), #[]⟩
noncomputable def o306c (P : Params) : Obj := ⟨(.type "tuple"), none, (.seq #[(.str (Str.ofString "octets") 1130), (.str (Str.ofString "most") 1131), (.str (Str.ofString "held") 1132), (.str (Str.ofString "tags") 1133), (.str (Str.ofString "at") 1134), (.str (Str.ofString "kind") 1135), (.str (Str.ofString "payload") 1136)] 0), #[]⟩
noncomputable def o307c (P : Params) : Obj := ⟨(.type "tuple"), none, (.seq #[] 0), #[]⟩
noncomputable def o308c (P : Params) : Obj := ⟨.none, none, (.func ⟨(Str.ofString "unpack_frame"), (Str.ofString "unpack_frame"), fArgs (stAt 37), .stmts (fBody (stAt 37)), fScope (stAt 37), 0, [], .none, .none, .none, .none, none, .none, .none, 0⟩), #[]⟩
noncomputable def o309c (P : Params) : Obj := ⟨(.type "code"), none, (.fields #[(.str (Str.ofString "unpack_frame") 1127), (.str (Str.ofString "unpack_frame") 1128), (.str (Str.ofString "/claim/cut.py") 1129), (.int 116 0), (.int 2 0), (.int 0 0), (.int 0 0), (.int 3 0), (.ref 304), (.bool true), (.int 181 0), (.ref 305), .none, (.ref 306), (.ref 307), (.ref 308), (.int 1137 0), (.int 116 0), (.str (Str.ofString "/claim/cut.py") 1138)]), #[]⟩
noncomputable def o310c (P : Params) : Obj := ⟨(.type "function"), none, (.func ⟨(Str.ofString "unpack_frame"), (Str.ofString "unpack_frame"), fArgs (stAt 37), .stmts (fBody (stAt 37)), fScope (stAt 37), 3, [], (.ref 303), .none, .none, (.str (Str.ofString "switchloom.frames") 972), none, (.ref 309), .none, 0⟩), #[]⟩
noncomputable def o311c (P : Params) : Obj := ⟨(.type "tuple"), none, (.seq #[] 0), #[]⟩
noncomputable def o312c (P : Params) : Obj := ⟨.none, none, (.fields #[]), #[]⟩
noncomputable def o313c (P : Params) : Obj := ⟨(.type "tuple"), none, (.seq #[(.str (Str.ofString "script") 1145), (.str (Str.ofString "k") 1146), (.str (Str.ofString "cell") 1147), (.str (Str.ofString "size") 1148), (.str (Str.ofString "stirred") 1149)] 0), #[]⟩
noncomputable def o314c (P : Params) : Obj := ⟨(.type "tuple"), none, (.seq #[] 0), #[]⟩
noncomputable def o315c (P : Params) : Obj := ⟨.none, none, (.func ⟨(Str.ofString "_law_pool"), (Str.ofString "_law_pool"), fArgs (stAt 39), .stmts (fBody (stAt 39)), fScope (stAt 39), 0, [], .none, .none, .none, .none, none, .none, .none, 0⟩), #[]⟩
noncomputable def o316c (P : Params) : Obj := ⟨(.type "code"), none, (.fields #[(.str (Str.ofString "_law_pool") 1142), (.str (Str.ofString "_law_pool") 1143), (.str (Str.ofString "/claim/cut.py") 1144), (.int 132 0), (.int 2 0), (.int 0 0), (.int 0 0), (.int 3 0), (.ref 311), (.bool true), (.int 181 0), (.ref 312), .none, (.ref 313), (.ref 314), (.ref 315), (.int 1150 0), (.int 132 0), (.str (Str.ofString "/claim/cut.py") 1151)]), #[]⟩
noncomputable def o317c (P : Params) : Obj := ⟨(.type "function"), none, (.func ⟨(Str.ofString "_law_pool"), (Str.ofString "_law_pool"), fArgs (stAt 39), .stmts (fBody (stAt 39)), fScope (stAt 39), 3, [], .none, .none, .none, (.str (Str.ofString "law_pf0385_01") 1140), none, (.ref 316), .none, 0⟩), #[]⟩
noncomputable def o318c (P : Params) : Obj := ⟨(.type "tuple"), none, (.seq #[] 0), #[]⟩
noncomputable def o319c (P : Params) : Obj := ⟨.none, none, (.fields #[]), #[]⟩
noncomputable def o320c (P : Params) : Obj := ⟨(.type "tuple"), none, (.seq #[(.str (Str.ofString "source") 1156), (.str (Str.ofString "top") 1157), (.str (Str.ofString "drawn") 1158)] 0), #[]⟩
noncomputable def o321c (P : Params) : Obj := ⟨(.type "tuple"), none, (.seq #[] 0), #[]⟩
noncomputable def o322c (P : Params) : Obj := ⟨.none, none, (.func ⟨(Str.ofString "_law_take"), (Str.ofString "_law_take"), fArgs (stAt 40), .stmts (fBody (stAt 40)), fScope (stAt 40), 0, [], .none, .none, .none, .none, none, .none, .none, 0⟩), #[]⟩
noncomputable def o323c (P : Params) : Obj := ⟨(.type "code"), none, (.fields #[(.str (Str.ofString "_law_take") 1153), (.str (Str.ofString "_law_take") 1154), (.str (Str.ofString "/claim/cut.py") 1155), (.int 137 0), (.int 2 0), (.int 0 0), (.int 0 0), (.int 3 0), (.ref 318), (.bool true), (.int 181 0), (.ref 319), .none, (.ref 320), (.ref 321), (.ref 322), (.int 1159 0), (.int 137 0), (.str (Str.ofString "/claim/cut.py") 1160)]), #[]⟩
noncomputable def o324c (P : Params) : Obj := ⟨(.type "function"), none, (.func ⟨(Str.ofString "_law_take"), (Str.ofString "_law_take"), fArgs (stAt 40), .stmts (fBody (stAt 40)), fScope (stAt 40), 3, [], .none, .none, .none, (.str (Str.ofString "law_pf0385_01") 1140), none, (.ref 323), .none, 0⟩), #[]⟩
noncomputable def o325c (P : Params) : Obj := ⟨(.type "tuple"), none, (.seq #[] 0), #[]⟩
noncomputable def o326c (P : Params) : Obj := ⟨.none, none, (.fields #[]), #[]⟩
noncomputable def o327c (P : Params) : Obj := ⟨(.type "tuple"), none, (.seq #[(.str (Str.ofString "source") 1165), (.str (Str.ofString "things") 1166)] 0), #[]⟩
noncomputable def o328c (P : Params) : Obj := ⟨(.type "tuple"), none, (.seq #[] 0), #[]⟩
noncomputable def o329c (P : Params) : Obj := ⟨.none, none, (.func ⟨(Str.ofString "_law_one"), (Str.ofString "_law_one"), fArgs (stAt 41), .stmts (fBody (stAt 41)), fScope (stAt 41), 0, [], .none, .none, .none, .none, none, .none, .none, 0⟩), #[]⟩
noncomputable def o330c (P : Params) : Obj := ⟨(.type "code"), none, (.fields #[(.str (Str.ofString "_law_one") 1162), (.str (Str.ofString "_law_one") 1163), (.str (Str.ofString "/claim/cut.py") 1164), (.int 144 0), (.int 2 0), (.int 0 0), (.int 0 0), (.int 3 0), (.ref 325), (.bool true), (.int 181 0), (.ref 326), .none, (.ref 327), (.ref 328), (.ref 329), (.int 1167 0), (.int 144 0), (.str (Str.ofString "/claim/cut.py") 1168)]), #[]⟩
noncomputable def o331c (P : Params) : Obj := ⟨(.type "function"), none, (.func ⟨(Str.ofString "_law_one"), (Str.ofString "_law_one"), fArgs (stAt 41), .stmts (fBody (stAt 41)), fScope (stAt 41), 3, [], .none, .none, .none, (.str (Str.ofString "law_pf0385_01") 1140), none, (.ref 330), .none, 0⟩), #[]⟩
noncomputable def o332c (P : Params) : Obj := ⟨(.type "tuple"), none, (.seq #[] 0), #[]⟩
noncomputable def o333c (P : Params) : Obj := ⟨.none, none, (.fields #[]), #[]⟩
noncomputable def o334c (P : Params) : Obj := ⟨(.type "tuple"), none, (.seq #[(.str (Str.ofString "call") 1173)] 0), #[]⟩
noncomputable def o335c (P : Params) : Obj := ⟨(.type "tuple"), none, (.seq #[] 0), #[]⟩
noncomputable def o336c (P : Params) : Obj := ⟨.none, none, (.func ⟨(Str.ofString "_law_heard"), (Str.ofString "_law_heard"), fArgs (stAt 42), .stmts (fBody (stAt 42)), fScope (stAt 42), 0, [], .none, .none, .none, .none, none, .none, .none, 0⟩), #[]⟩
noncomputable def o337c (P : Params) : Obj := ⟨(.type "code"), none, (.fields #[(.str (Str.ofString "_law_heard") 1170), (.str (Str.ofString "_law_heard") 1171), (.str (Str.ofString "/claim/cut.py") 1172), (.int 146 0), (.int 1 0), (.int 0 0), (.int 0 0), (.int 3 0), (.ref 332), (.bool true), (.int 181 0), (.ref 333), .none, (.ref 334), (.ref 335), (.ref 336), (.int 1174 0), (.int 146 0), (.str (Str.ofString "/claim/cut.py") 1175)]), #[]⟩
noncomputable def o338c (P : Params) : Obj := ⟨(.type "function"), none, (.func ⟨(Str.ofString "_law_heard"), (Str.ofString "_law_heard"), fArgs (stAt 42), .stmts (fBody (stAt 42)), fScope (stAt 42), 3, [], .none, .none, .none, (.str (Str.ofString "law_pf0385_01") 1140), none, (.ref 337), .none, 0⟩), #[]⟩
noncomputable def o339c (P : Params) : Obj := ⟨(.type "tuple"), none, (.seq #[] 0), #[]⟩
noncomputable def o340c (P : Params) : Obj := ⟨.none, none, (.fields #[]), #[]⟩
noncomputable def o341c (P : Params) : Obj := ⟨(.type "tuple"), none, (.seq #[(.str (Str.ofString "source") 1180), (.str (Str.ofString "due") 1181)] 0), #[]⟩
noncomputable def o342c (P : Params) : Obj := ⟨(.type "tuple"), none, (.seq #[(.str (Str.ofString "kind") 1182), (.str (Str.ofString "many") 1183)] 0), #[]⟩
noncomputable def o343c (P : Params) : Obj := ⟨.none, none, (.func ⟨(Str.ofString "_law_kinds_right"), (Str.ofString "_law_kinds_right"), fArgs (stAt 43), .stmts (fBody (stAt 43)), fScope (stAt 43), 0, [], .none, .none, .none, .none, none, .none, .none, 0⟩), #[]⟩
noncomputable def o344c (P : Params) : Obj := ⟨(.type "code"), none, (.fields #[(.str (Str.ofString "_law_kinds_right") 1177), (.str (Str.ofString "_law_kinds_right") 1178), (.str (Str.ofString "/claim/cut.py") 1179), (.int 153 0), (.int 1 0), (.int 0 0), (.int 0 0), (.int 3 0), (.ref 339), (.bool true), (.int 181 0), (.ref 340), .none, (.ref 341), (.ref 342), (.ref 343), (.int 1184 0), (.int 153 0), (.str (Str.ofString "/claim/cut.py") 1185)]), #[]⟩
noncomputable def o345c (P : Params) : Obj := ⟨(.type "function"), none, (.func ⟨(Str.ofString "_law_kinds_right"), (Str.ofString "_law_kinds_right"), fArgs (stAt 43), .stmts (fBody (stAt 43)), fScope (stAt 43), 3, [], .none, .none, .none, (.str (Str.ofString "law_pf0385_01") 1140), none, (.ref 344), .none, 0⟩), #[]⟩
noncomputable def o346c (P : Params) : Obj := ⟨(.type "tuple"), none, (.seq #[] 0), #[]⟩
noncomputable def o347c (P : Params) : Obj := ⟨.none, none, (.fields #[]), #[]⟩
noncomputable def o348c (P : Params) : Obj := ⟨(.type "tuple"), none, (.seq #[(.str (Str.ofString "source") 1190), (.str (Str.ofString "due") 1191), (.str (Str.ofString "mac") 1192), (.str (Str.ofString "odd") 1193)] 0), #[]⟩
noncomputable def o349c (P : Params) : Obj := ⟨(.type "tuple"), none, (.seq #[(.str (Str.ofString "ends") 1194), (.str (Str.ofString "kind") 1195), (.str (Str.ofString "may_drop") 1196), (.str (Str.ofString "priority") 1197), (.str (Str.ofString "vlan") 1198)] 0), #[]⟩
noncomputable def o350c (P : Params) : Obj := ⟨.none, none, (.func ⟨(Str.ofString "_law_tags_right"), (Str.ofString "_law_tags_right"), fArgs (stAt 44), .stmts (fBody (stAt 44)), fScope (stAt 44), 0, [], .none, .none, .none, .none, none, .none, .none, 0⟩), #[]⟩
noncomputable def o351c (P : Params) : Obj := ⟨(.type "code"), none, (.fields #[(.str (Str.ofString "_law_tags_right") 1187), (.str (Str.ofString "_law_tags_right") 1188), (.str (Str.ofString "/claim/cut.py") 1189), (.int 161 0), (.int 1 0), (.int 0 0), (.int 0 0), (.int 3 0), (.ref 346), (.bool true), (.int 181 0), (.ref 347), .none, (.ref 348), (.ref 349), (.ref 350), (.int 1199 0), (.int 161 0), (.str (Str.ofString "/claim/cut.py") 1200)]), #[]⟩
noncomputable def o352c (P : Params) : Obj := ⟨(.type "function"), none, (.func ⟨(Str.ofString "_law_tags_right"), (Str.ofString "_law_tags_right"), fArgs (stAt 44), .stmts (fBody (stAt 44)), fScope (stAt 44), 3, [], .none, .none, .none, (.str (Str.ofString "law_pf0385_01") 1140), none, (.ref 351), .none, 0⟩), #[]⟩
noncomputable def o353c (P : Params) : Obj := ⟨(.type "tuple"), none, (.seq #[] 0), #[]⟩
noncomputable def o354c (P : Params) : Obj := ⟨.none, none, (.fields #[]), #[]⟩
noncomputable def o355c (P : Params) : Obj := ⟨.none, none, (.func ⟨(Str.ofString "_law_frame"), (Str.ofString "_law_frame"), fArgs (stAt 45), .stmts (fBody (stAt 45)), fScope (stAt 45), 0, [], .none, .none, .none, .none, none, .none, .none, 0⟩), #[]⟩
noncomputable def o356c (P : Params) : Obj := ⟨(.type "code"), none, (.fields #[(.str (Str.ofString "_law_frame") 1202), (.str (Str.ofString "_law_frame") 1203), (.str (Str.ofString "/claim/cut.py") 1204), (.int 173 0), (.int 2 0), (.int 0 0), (.int 0 0), (.int 3 0), (.ref 353), (.bool true), (.int 181 0), (.ref 354), .none, .none, .none, (.ref 355), (.int 1205 0), (.int 173 0), (.str (Str.ofString "/claim/cut.py") 1206)]), #[]⟩
noncomputable def o357c (P : Params) : Obj := ⟨(.type "function"), none, (.func ⟨(Str.ofString "_law_frame"), (Str.ofString "_law_frame"), fArgs (stAt 45), .stmts (fBody (stAt 45)), fScope (stAt 45), 3, [], .none, .none, .none, (.str (Str.ofString "law_pf0385_01") 1140), none, (.ref 356), .none, 0⟩), #[]⟩
noncomputable def o358c (P : Params) : Obj := ⟨(.type "tuple"), none, (.seq #[] 0), #[]⟩
noncomputable def o359c (P : Params) : Obj := ⟨.none, none, (.fields #[]), #[]⟩
noncomputable def o360c (P : Params) : Obj := ⟨(.type "tuple"), none, (.seq #[(.str (Str.ofString "source") 1211), (.str (Str.ofString "frame") 1212), (.str (Str.ofString "least") 1213), (.str (Str.ofString "filled") 1214), (.str (Str.ofString "due") 1215), (.str (Str.ofString "told") 1216)] 0), #[]⟩
noncomputable def o361c (P : Params) : Obj := ⟨(.type "tuple"), none, (.seq #[(.str (Str.ofString "many") 1217), (.str (Str.ofString "most") 1218), (.str (Str.ofString "whole") 1219)] 0), #[]⟩
noncomputable def o362c (P : Params) : Obj := ⟨.none, none, (.func ⟨(Str.ofString "_law_most_right"), (Str.ofString "_law_most_right"), fArgs (stAt 46), .stmts (fBody (stAt 46)), fScope (stAt 46), 0, [], .none, .none, .none, .none, none, .none, .none, 0⟩), #[]⟩
noncomputable def o363c (P : Params) : Obj := ⟨(.type "code"), none, (.fields #[(.str (Str.ofString "_law_most_right") 1208), (.str (Str.ofString "_law_most_right") 1209), (.str (Str.ofString "/claim/cut.py") 1210), (.int 176 0), (.int 1 0), (.int 0 0), (.int 0 0), (.int 3 0), (.ref 358), (.bool true), (.int 181 0), (.ref 359), .none, (.ref 360), (.ref 361), (.ref 362), (.int 1220 0), (.int 176 0), (.str (Str.ofString "/claim/cut.py") 1221)]), #[]⟩
noncomputable def o364c (P : Params) : Obj := ⟨(.type "function"), none, (.func ⟨(Str.ofString "_law_most_right"), (Str.ofString "_law_most_right"), fArgs (stAt 46), .stmts (fBody (stAt 46)), fScope (stAt 46), 3, [], .none, .none, .none, (.str (Str.ofString "law_pf0385_01") 1140), none, (.ref 363), .none, 0⟩), #[]⟩
noncomputable def o365c (P : Params) : Obj := ⟨(.type "tuple"), none, (.seq #[] 0), #[]⟩
noncomputable def o366c (P : Params) : Obj := ⟨.none, none, (.fields #[]), #[]⟩
noncomputable def o367c (P : Params) : Obj := ⟨(.type "tuple"), none, (.seq #[(.str (Str.ofString "source") 1226), (.str (Str.ofString "many") 1227), (.str (Str.ofString "told") 1228), (.str (Str.ofString "heard") 1229)] 0), #[]⟩
noncomputable def o368c (P : Params) : Obj := ⟨(.type "tuple"), none, (.seq #[(.str (Str.ofString "frame") 1230), (.str (Str.ofString "most") 1231), (.str (Str.ofString "whole") 1232)] 0), #[]⟩
noncomputable def o369c (P : Params) : Obj := ⟨.none, none, (.func ⟨(Str.ofString "_law_greatest_right"), (Str.ofString "_law_greatest_right"), fArgs (stAt 47), .stmts (fBody (stAt 47)), fScope (stAt 47), 0, [], .none, .none, .none, .none, none, .none, .none, 0⟩), #[]⟩
noncomputable def o370c (P : Params) : Obj := ⟨(.type "code"), none, (.fields #[(.str (Str.ofString "_law_greatest_right") 1223), (.str (Str.ofString "_law_greatest_right") 1224), (.str (Str.ofString "/claim/cut.py") 1225), (.int 192 0), (.int 1 0), (.int 0 0), (.int 0 0), (.int 3 0), (.ref 365), (.bool true), (.int 181 0), (.ref 366), .none, (.ref 367), (.ref 368), (.ref 369), (.int 1233 0), (.int 192 0), (.str (Str.ofString "/claim/cut.py") 1234)]), #[]⟩
noncomputable def o371c (P : Params) : Obj := ⟨(.type "function"), none, (.func ⟨(Str.ofString "_law_greatest_right"), (Str.ofString "_law_greatest_right"), fArgs (stAt 47), .stmts (fBody (stAt 47)), fScope (stAt 47), 3, [], .none, .none, .none, (.str (Str.ofString "law_pf0385_01") 1140), none, (.ref 370), .none, 0⟩), #[]⟩
noncomputable def o372c (P : Params) : Obj := ⟨(.type "tuple"), none, (.seq #[] 0), #[]⟩
noncomputable def o373c (P : Params) : Obj := ⟨.none, none, (.fields #[]), #[]⟩
noncomputable def o374c (P : Params) : Obj := ⟨(.type "tuple"), none, (.seq #[(.str (Str.ofString "script") 1239), (.str (Str.ofString "k") 1240), (.str (Str.ofString "source") 1241)] 0), #[]⟩
noncomputable def o375c (P : Params) : Obj := ⟨(.type "tuple"), none, (.seq #[(.str (Str.ofString "small") 1242)] 0), #[]⟩
noncomputable def o376c (P : Params) : Obj := ⟨.none, none, (.func ⟨(Str.ofString "law"), (Str.ofString "law"), fArgs (stAt 48), .stmts (fBody (stAt 48)), fScope (stAt 48), 0, [], .none, .none, .none, .none, none, .none, .none, 0⟩), #[]⟩
noncomputable def o377c (P : Params) : Obj := ⟨(.type "code"), none, (.fields #[(.str (Str.ofString "law") 1236), (.str (Str.ofString "law") 1237), (.str (Str.ofString "/claim/cut.py") 1238), (.int 203 0), (.int 1 0), (.int 0 0), (.int 0 0), (.int 3 0), (.ref 372), (.bool true), (.int 181 0), (.ref 373), .none, (.ref 374), (.ref 375), (.ref 376), (.int 1243 0), (.int 203 0), (.str (Str.ofString "/claim/cut.py") 1244)]), #[]⟩
noncomputable def o378c (P : Params) : Obj := ⟨(.type "function"), none, (.func ⟨(Str.ofString "law"), (Str.ofString "law"), fArgs (stAt 48), .stmts (fBody (stAt 48)), fScope (stAt 48), 3, [], .none, .none, .none, (.str (Str.ofString "law_pf0385_01") 1140), none, (.ref 377), .none, 0⟩), #[]⟩
noncomputable def t0 (P : Params) : BT := (.node (boot_o_0 P) (.node (boot_o_1 P) (.node (o3a P) (.node (boot_o_7 P) (.node (o15a P) (.node (o31a P) (.node (o63a P) .nil .nil) (.node (o95a P) .nil .nil)) (.node (o47a P) (.node (o79a P) .nil .nil) .nil)) (.node (o23a P) (.node (o39a P) (.node (o71a P) .nil .nil) (.node (o103a P) .nil .nil)) (.node (o55a P) (.node (o87a P) .nil .nil) .nil))) (.node (o11a P) (.node (o19a P) (.node (o35a P) (.node (o67a P) .nil .nil) (.node (o99a P) .nil .nil)) (.node (o51a P) (.node (o83a P) .nil .nil) .nil)) (.node (o27a P) (.node (o43a P) (.node (o75a P) .nil .nil) (.node (o107a P) .nil .nil)) (.node (o59a P) (.node (o91a P) .nil .nil) .nil)))) (.node (boot_o_5 P) (.node (boot_o_9 P) (.node (o17a P) (.node (o33a P) (.node (o65a P) .nil .nil) (.node (o97a P) .nil .nil)) (.node (o49a P) (.node (o81a P) .nil .nil) .nil)) (.node (o25a P) (.node (o41a P) (.node (o73a P) .nil .nil) (.node (o105a P) .nil .nil)) (.node (o57a P) (.node (o89a P) .nil .nil) .nil))) (.node (o13a P) (.node (o21a P) (.node (o37a P) (.node (o69a P) .nil .nil) (.node (o101a P) .nil .nil)) (.node (o53a P) (.node (o85a P) .nil .nil) .nil)) (.node (o29a P) (.node (o45a P) (.node (o77a P) .nil .nil) (.node (o109a P) .nil .nil)) (.node (o61a P) (.node (o93a P) .nil .nil) .nil))))) (.node (boot_o_2 P) (.node (boot_o_4 P) (.node (boot_o_8 P) (.node (o16a P) (.node (o32a P) (.node (o64a P) .nil .nil) (.node (o96a P) .nil .nil)) (.node (o48a P) (.node (o80a P) .nil .nil) .nil)) (.node (o24a P) (.node (o40a P) (.node (o72a P) .nil .nil) (.node (o104a P) .nil .nil)) (.node (o56a P) (.node (o88a P) .nil .nil) .nil))) (.node (o12a P) (.node (o20a P) (.node (o36a P) (.node (o68a P) .nil .nil) (.node (o100a P) .nil .nil)) (.node (o52a P) (.node (o84a P) .nil .nil) .nil)) (.node (o28a P) (.node (o44a P) (.node (o76a P) .nil .nil) (.node (o108a P) .nil .nil)) (.node (o60a P) (.node (o92a P) .nil .nil) .nil)))) (.node (boot_o_6 P) (.node (boot_o_10 P) (.node (o18a P) (.node (o34a P) (.node (o66a P) .nil .nil) (.node (o98a P) .nil .nil)) (.node (o50a P) (.node (o82a P) .nil .nil) .nil)) (.node (o26a P) (.node (o42a P) (.node (o74a P) .nil .nil) (.node (o106a P) .nil .nil)) (.node (o58a P) (.node (o90a P) .nil .nil) .nil))) (.node (o14a P) (.node (o22a P) (.node (o38a P) (.node (o70a P) .nil .nil) (.node (o102a P) .nil .nil)) (.node (o54a P) (.node (o86a P) .nil .nil) .nil)) (.node (o30a P) (.node (o46a P) (.node (o78a P) .nil .nil) .nil) (.node (o62a P) (.node (o94a P) .nil .nil) .nil))))))
noncomputable def t1 (P : Params) : BT := (.node (boot_o_0 P) (.node (boot_o_1 P) (.node (o3b P) (.node (boot_o_7 P) (.node (o15a P) (.node (o31a P) (.node (o63a P) (.node (o127b P) .nil .nil) (.node (o191b P) .nil .nil)) (.node (o95a P) (.node (o159b P) .nil .nil) .nil)) (.node (o47a P) (.node (o79a P) (.node (o143b P) .nil .nil) .nil) (.node (o111b P) (.node (o175b P) .nil .nil) .nil))) (.node (o23a P) (.node (o39a P) (.node (o71a P) (.node (o135b P) .nil .nil) (.node (o199b P) .nil .nil)) (.node (o103a P) (.node (o167b P) .nil .nil) .nil)) (.node (o55a P) (.node (o87a P) (.node (o151b P) .nil .nil) .nil) (.node (o119b P) (.node (o183b P) .nil .nil) .nil)))) (.node (o11a P) (.node (o19a P) (.node (o35a P) (.node (o67a P) (.node (o131b P) .nil .nil) (.node (o195b P) .nil .nil)) (.node (o99a P) (.node (o163b P) .nil .nil) .nil)) (.node (o51a P) (.node (o83a P) (.node (o147b P) .nil .nil) .nil) (.node (o115b P) (.node (o179b P) .nil .nil) .nil))) (.node (o27a P) (.node (o43a P) (.node (o75a P) (.node (o139b P) .nil .nil) (.node (o203b P) .nil .nil)) (.node (o107a P) (.node (o171b P) .nil .nil) .nil)) (.node (o59a P) (.node (o91a P) (.node (o155b P) .nil .nil) .nil) (.node (o123b P) (.node (o187b P) .nil .nil) .nil))))) (.node (boot_o_5 P) (.node (boot_o_9 P) (.node (o17a P) (.node (o33a P) (.node (o65a P) (.node (o129b P) .nil .nil) (.node (o193b P) .nil .nil)) (.node (o97a P) (.node (o161b P) .nil .nil) .nil)) (.node (o49a P) (.node (o81a P) (.node (o145b P) .nil .nil) .nil) (.node (o113b P) (.node (o177b P) .nil .nil) .nil))) (.node (o25a P) (.node (o41a P) (.node (o73a P) (.node (o137b P) .nil .nil) (.node (o201b P) .nil .nil)) (.node (o105a P) (.node (o169b P) .nil .nil) .nil)) (.node (o57a P) (.node (o89a P) (.node (o153b P) .nil .nil) .nil) (.node (o121b P) (.node (o185b P) .nil .nil) .nil)))) (.node (o13a P) (.node (o21a P) (.node (o37a P) (.node (o69a P) (.node (o133b P) .nil .nil) (.node (o197b P) .nil .nil)) (.node (o101a P) (.node (o165b P) .nil .nil) .nil)) (.node (o53a P) (.node (o85a P) (.node (o149b P) .nil .nil) .nil) (.node (o117b P) (.node (o181b P) .nil .nil) .nil))) (.node (o29a P) (.node (o45a P) (.node (o77a P) (.node (o141b P) .nil .nil) (.node (o205b P) .nil .nil)) (.node (o109a P) (.node (o173b P) .nil .nil) .nil)) (.node (o61a P) (.node (o93a P) (.node (o157b P) .nil .nil) .nil) (.node (o125b P) (.node (o189b P) .nil .nil) .nil)))))) (.node (o2b P) (.node (boot_o_4 P) (.node (boot_o_8 P) (.node (o16a P) (.node (o32a P) (.node (o64a P) (.node (o128b P) .nil .nil) (.node (o192b P) .nil .nil)) (.node (o96a P) (.node (o160b P) .nil .nil) .nil)) (.node (o48a P) (.node (o80a P) (.node (o144b P) .nil .nil) .nil) (.node (o112b P) (.node (o176b P) .nil .nil) .nil))) (.node (o24a P) (.node (o40a P) (.node (o72a P) (.node (o136b P) .nil .nil) (.node (o200b P) .nil .nil)) (.node (o104a P) (.node (o168b P) .nil .nil) .nil)) (.node (o56a P) (.node (o88a P) (.node (o152b P) .nil .nil) .nil) (.node (o120b P) (.node (o184b P) .nil .nil) .nil)))) (.node (o12b P) (.node (o20a P) (.node (o36a P) (.node (o68a P) (.node (o132b P) .nil .nil) (.node (o196b P) .nil .nil)) (.node (o100a P) (.node (o164b P) .nil .nil) .nil)) (.node (o52a P) (.node (o84a P) (.node (o148b P) .nil .nil) .nil) (.node (o116b P) (.node (o180b P) .nil .nil) .nil))) (.node (o28a P) (.node (o44a P) (.node (o76a P) (.node (o140b P) .nil .nil) (.node (o204b P) .nil .nil)) (.node (o108a P) (.node (o172b P) .nil .nil) .nil)) (.node (o60a P) (.node (o92a P) (.node (o156b P) .nil .nil) .nil) (.node (o124b P) (.node (o188b P) .nil .nil) .nil))))) (.node (boot_o_6 P) (.node (boot_o_10 P) (.node (o18a P) (.node (o34a P) (.node (o66a P) (.node (o130b P) .nil .nil) (.node (o194b P) .nil .nil)) (.node (o98a P) (.node (o162b P) .nil .nil) .nil)) (.node (o50a P) (.node (o82a P) (.node (o146b P) .nil .nil) .nil) (.node (o114b P) (.node (o178b P) .nil .nil) .nil))) (.node (o26a P) (.node (o42a P) (.node (o74a P) (.node (o138b P) .nil .nil) (.node (o202b P) .nil .nil)) (.node (o106a P) (.node (o170b P) .nil .nil) .nil)) (.node (o58a P) (.node (o90a P) (.node (o154b P) .nil .nil) .nil) (.node (o122b P) (.node (o186b P) .nil .nil) .nil)))) (.node (o14a P) (.node (o22a P) (.node (o38a P) (.node (o70a P) (.node (o134b P) .nil .nil) (.node (o198b P) .nil .nil)) (.node (o102a P) (.node (o166b P) .nil .nil) .nil)) (.node (o54a P) (.node (o86a P) (.node (o150b P) .nil .nil) .nil) (.node (o118b P) (.node (o182b P) .nil .nil) .nil))) (.node (o30a P) (.node (o46a P) (.node (o78a P) (.node (o142b P) .nil .nil) (.node (o206b P) .nil .nil)) (.node (o110b P) (.node (o174b P) .nil .nil) .nil)) (.node (o62a P) (.node (o94a P) (.node (o158b P) .nil .nil) .nil) (.node (o126b P) (.node (o190b P) .nil .nil) .nil)))))))
noncomputable def t2 (P : Params) : BT := (.node (boot_o_0 P) (.node (boot_o_1 P) (.node (o3c P) (.node (boot_o_7 P) (.node (o15a P) (.node (o31a P) (.node (o63a P) (.node (o127b P) (.node (o255c P) .nil .nil) .nil) (.node (o191b P) (.node (o319c P) .nil .nil) .nil)) (.node (o95a P) (.node (o159b P) (.node (o287c P) .nil .nil) .nil) (.node (o223c P) (.node (o351c P) .nil .nil) .nil))) (.node (o47a P) (.node (o79a P) (.node (o143b P) (.node (o271c P) .nil .nil) .nil) (.node (o207c P) (.node (o335c P) .nil .nil) .nil)) (.node (o111b P) (.node (o175b P) (.node (o303c P) .nil .nil) .nil) (.node (o239c P) (.node (o367c P) .nil .nil) .nil)))) (.node (o23a P) (.node (o39a P) (.node (o71a P) (.node (o135b P) (.node (o263c P) .nil .nil) .nil) (.node (o199b P) (.node (o327c P) .nil .nil) .nil)) (.node (o103a P) (.node (o167b P) (.node (o295c P) .nil .nil) .nil) (.node (o231c P) (.node (o359c P) .nil .nil) .nil))) (.node (o55a P) (.node (o87a P) (.node (o151b P) (.node (o279c P) .nil .nil) .nil) (.node (o215c P) (.node (o343c P) .nil .nil) .nil)) (.node (o119b P) (.node (o183b P) (.node (o311c P) .nil .nil) .nil) (.node (o247c P) (.node (o375c P) .nil .nil) .nil))))) (.node (o11a P) (.node (o19a P) (.node (o35a P) (.node (o67a P) (.node (o131b P) (.node (o259c P) .nil .nil) .nil) (.node (o195b P) (.node (o323c P) .nil .nil) .nil)) (.node (o99a P) (.node (o163b P) (.node (o291c P) .nil .nil) .nil) (.node (o227c P) (.node (o355c P) .nil .nil) .nil))) (.node (o51a P) (.node (o83a P) (.node (o147b P) (.node (o275c P) .nil .nil) .nil) (.node (o211c P) (.node (o339c P) .nil .nil) .nil)) (.node (o115b P) (.node (o179b P) (.node (o307c P) .nil .nil) .nil) (.node (o243c P) (.node (o371c P) .nil .nil) .nil)))) (.node (o27a P) (.node (o43a P) (.node (o75a P) (.node (o139b P) (.node (o267c P) .nil .nil) .nil) (.node (o203b P) (.node (o331c P) .nil .nil) .nil)) (.node (o107a P) (.node (o171b P) (.node (o299c P) .nil .nil) .nil) (.node (o235c P) (.node (o363c P) .nil .nil) .nil))) (.node (o59a P) (.node (o91a P) (.node (o155b P) (.node (o283c P) .nil .nil) .nil) (.node (o219c P) (.node (o347c P) .nil .nil) .nil)) (.node (o123b P) (.node (o187b P) (.node (o315c P) .nil .nil) .nil) (.node (o251c P) .nil .nil)))))) (.node (boot_o_5 P) (.node (boot_o_9 P) (.node (o17a P) (.node (o33a P) (.node (o65a P) (.node (o129b P) (.node (o257c P) .nil .nil) .nil) (.node (o193b P) (.node (o321c P) .nil .nil) .nil)) (.node (o97a P) (.node (o161b P) (.node (o289c P) .nil .nil) .nil) (.node (o225c P) (.node (o353c P) .nil .nil) .nil))) (.node (o49a P) (.node (o81a P) (.node (o145b P) (.node (o273c P) .nil .nil) .nil) (.node (o209c P) (.node (o337c P) .nil .nil) .nil)) (.node (o113b P) (.node (o177b P) (.node (o305c P) .nil .nil) .nil) (.node (o241c P) (.node (o369c P) .nil .nil) .nil)))) (.node (o25a P) (.node (o41a P) (.node (o73a P) (.node (o137b P) (.node (o265c P) .nil .nil) .nil) (.node (o201b P) (.node (o329c P) .nil .nil) .nil)) (.node (o105a P) (.node (o169b P) (.node (o297c P) .nil .nil) .nil) (.node (o233c P) (.node (o361c P) .nil .nil) .nil))) (.node (o57a P) (.node (o89a P) (.node (o153b P) (.node (o281c P) .nil .nil) .nil) (.node (o217c P) (.node (o345c P) .nil .nil) .nil)) (.node (o121b P) (.node (o185b P) (.node (o313c P) .nil .nil) .nil) (.node (o249c P) (.node (o377c P) .nil .nil) .nil))))) (.node (o13a P) (.node (o21a P) (.node (o37a P) (.node (o69a P) (.node (o133b P) (.node (o261c P) .nil .nil) .nil) (.node (o197b P) (.node (o325c P) .nil .nil) .nil)) (.node (o101a P) (.node (o165b P) (.node (o293c P) .nil .nil) .nil) (.node (o229c P) (.node (o357c P) .nil .nil) .nil))) (.node (o53a P) (.node (o85a P) (.node (o149b P) (.node (o277c P) .nil .nil) .nil) (.node (o213c P) (.node (o341c P) .nil .nil) .nil)) (.node (o117b P) (.node (o181b P) (.node (o309c P) .nil .nil) .nil) (.node (o245c P) (.node (o373c P) .nil .nil) .nil)))) (.node (o29a P) (.node (o45a P) (.node (o77a P) (.node (o141b P) (.node (o269c P) .nil .nil) .nil) (.node (o205b P) (.node (o333c P) .nil .nil) .nil)) (.node (o109a P) (.node (o173b P) (.node (o301c P) .nil .nil) .nil) (.node (o237c P) (.node (o365c P) .nil .nil) .nil))) (.node (o61a P) (.node (o93a P) (.node (o157b P) (.node (o285c P) .nil .nil) .nil) (.node (o221c P) (.node (o349c P) .nil .nil) .nil)) (.node (o125b P) (.node (o189b P) (.node (o317c P) .nil .nil) .nil) (.node (o253c P) .nil .nil))))))) (.node (o2b P) (.node (boot_o_4 P) (.node (boot_o_8 P) (.node (o16a P) (.node (o32a P) (.node (o64a P) (.node (o128b P) (.node (o256c P) .nil .nil) .nil) (.node (o192b P) (.node (o320c P) .nil .nil) .nil)) (.node (o96a P) (.node (o160b P) (.node (o288c P) .nil .nil) .nil) (.node (o224c P) (.node (o352c P) .nil .nil) .nil))) (.node (o48a P) (.node (o80a P) (.node (o144b P) (.node (o272c P) .nil .nil) .nil) (.node (o208c P) (.node (o336c P) .nil .nil) .nil)) (.node (o112b P) (.node (o176b P) (.node (o304c P) .nil .nil) .nil) (.node (o240c P) (.node (o368c P) .nil .nil) .nil)))) (.node (o24a P) (.node (o40a P) (.node (o72a P) (.node (o136b P) (.node (o264c P) .nil .nil) .nil) (.node (o200b P) (.node (o328c P) .nil .nil) .nil)) (.node (o104a P) (.node (o168b P) (.node (o296c P) .nil .nil) .nil) (.node (o232c P) (.node (o360c P) .nil .nil) .nil))) (.node (o56a P) (.node (o88a P) (.node (o152b P) (.node (o280c P) .nil .nil) .nil) (.node (o216c P) (.node (o344c P) .nil .nil) .nil)) (.node (o120b P) (.node (o184b P) (.node (o312c P) .nil .nil) .nil) (.node (o248c P) (.node (o376c P) .nil .nil) .nil))))) (.node (o12c P) (.node (o20a P) (.node (o36a P) (.node (o68a P) (.node (o132b P) (.node (o260c P) .nil .nil) .nil) (.node (o196b P) (.node (o324c P) .nil .nil) .nil)) (.node (o100a P) (.node (o164b P) (.node (o292c P) .nil .nil) .nil) (.node (o228c P) (.node (o356c P) .nil .nil) .nil))) (.node (o52a P) (.node (o84a P) (.node (o148b P) (.node (o276c P) .nil .nil) .nil) (.node (o212c P) (.node (o340c P) .nil .nil) .nil)) (.node (o116b P) (.node (o180b P) (.node (o308c P) .nil .nil) .nil) (.node (o244c P) (.node (o372c P) .nil .nil) .nil)))) (.node (o28a P) (.node (o44a P) (.node (o76a P) (.node (o140b P) (.node (o268c P) .nil .nil) .nil) (.node (o204b P) (.node (o332c P) .nil .nil) .nil)) (.node (o108a P) (.node (o172b P) (.node (o300c P) .nil .nil) .nil) (.node (o236c P) (.node (o364c P) .nil .nil) .nil))) (.node (o60a P) (.node (o92a P) (.node (o156b P) (.node (o284c P) .nil .nil) .nil) (.node (o220c P) (.node (o348c P) .nil .nil) .nil)) (.node (o124b P) (.node (o188b P) (.node (o316c P) .nil .nil) .nil) (.node (o252c P) .nil .nil)))))) (.node (boot_o_6 P) (.node (boot_o_10 P) (.node (o18a P) (.node (o34a P) (.node (o66a P) (.node (o130b P) (.node (o258c P) .nil .nil) .nil) (.node (o194b P) (.node (o322c P) .nil .nil) .nil)) (.node (o98a P) (.node (o162b P) (.node (o290c P) .nil .nil) .nil) (.node (o226c P) (.node (o354c P) .nil .nil) .nil))) (.node (o50a P) (.node (o82a P) (.node (o146b P) (.node (o274c P) .nil .nil) .nil) (.node (o210c P) (.node (o338c P) .nil .nil) .nil)) (.node (o114b P) (.node (o178b P) (.node (o306c P) .nil .nil) .nil) (.node (o242c P) (.node (o370c P) .nil .nil) .nil)))) (.node (o26a P) (.node (o42a P) (.node (o74a P) (.node (o138b P) (.node (o266c P) .nil .nil) .nil) (.node (o202b P) (.node (o330c P) .nil .nil) .nil)) (.node (o106a P) (.node (o170b P) (.node (o298c P) .nil .nil) .nil) (.node (o234c P) (.node (o362c P) .nil .nil) .nil))) (.node (o58a P) (.node (o90a P) (.node (o154b P) (.node (o282c P) .nil .nil) .nil) (.node (o218c P) (.node (o346c P) .nil .nil) .nil)) (.node (o122b P) (.node (o186b P) (.node (o314c P) .nil .nil) .nil) (.node (o250c P) (.node (o378c P) .nil .nil) .nil))))) (.node (o14a P) (.node (o22a P) (.node (o38a P) (.node (o70a P) (.node (o134b P) (.node (o262c P) .nil .nil) .nil) (.node (o198b P) (.node (o326c P) .nil .nil) .nil)) (.node (o102a P) (.node (o166b P) (.node (o294c P) .nil .nil) .nil) (.node (o230c P) (.node (o358c P) .nil .nil) .nil))) (.node (o54a P) (.node (o86a P) (.node (o150b P) (.node (o278c P) .nil .nil) .nil) (.node (o214c P) (.node (o342c P) .nil .nil) .nil)) (.node (o118b P) (.node (o182b P) (.node (o310c P) .nil .nil) .nil) (.node (o246c P) (.node (o374c P) .nil .nil) .nil)))) (.node (o30a P) (.node (o46a P) (.node (o78a P) (.node (o142b P) (.node (o270c P) .nil .nil) .nil) (.node (o206b P) (.node (o334c P) .nil .nil) .nil)) (.node (o110b P) (.node (o174b P) (.node (o302c P) .nil .nil) .nil) (.node (o238c P) (.node (o366c P) .nil .nil) .nil))) (.node (o62a P) (.node (o94a P) (.node (o158b P) (.node (o286c P) .nil .nil) .nil) (.node (o222c P) (.node (o350c P) .nil .nil) .nil)) (.node (o126b P) (.node (o190b P) (.node (o318c P) .nil .nil) .nil) (.node (o254c P) .nil .nil))))))))
noncomputable def hZ (P : Params) : Heap := ⟨#[boot_o_0 P, boot_o_1 P, o2b P, o3c P, boot_o_4 P, boot_o_5 P, boot_o_6 P, boot_o_7 P, boot_o_8 P, boot_o_9 P, boot_o_10 P, o11a P, o12c P, o13a P, o14a P, o15a P, o16a P, o17a P, o18a P, o19a P, o20a P, o21a P, o22a P, o23a P, o24a P, o25a P, o26a P, o27a P, o28a P, o29a P, o30a P, o31a P, o32a P, o33a P, o34a P, o35a P, o36a P, o37a P, o38a P, o39a P, o40a P, o41a P, o42a P, o43a P, o44a P, o45a P, o46a P, o47a P, o48a P, o49a P, o50a P, o51a P, o52a P, o53a P, o54a P, o55a P, o56a P, o57a P, o58a P, o59a P, o60a P, o61a P, o62a P, o63a P, o64a P, o65a P, o66a P, o67a P, o68a P, o69a P, o70a P, o71a P, o72a P, o73a P, o74a P, o75a P, o76a P, o77a P, o78a P, o79a P, o80a P, o81a P, o82a P, o83a P, o84a P, o85a P, o86a P, o87a P, o88a P, o89a P, o90a P, o91a P, o92a P, o93a P, o94a P, o95a P, o96a P, o97a P, o98a P, o99a P, o100a P, o101a P, o102a P, o103a P, o104a P, o105a P, o106a P, o107a P, o108a P, o109a P, o110b P, o111b P, o112b P, o113b P, o114b P, o115b P, o116b P, o117b P, o118b P, o119b P, o120b P, o121b P, o122b P, o123b P, o124b P, o125b P, o126b P, o127b P, o128b P, o129b P, o130b P, o131b P, o132b P, o133b P, o134b P, o135b P, o136b P, o137b P, o138b P, o139b P, o140b P, o141b P, o142b P, o143b P, o144b P, o145b P, o146b P, o147b P, o148b P, o149b P, o150b P, o151b P, o152b P, o153b P, o154b P, o155b P, o156b P, o157b P, o158b P, o159b P, o160b P, o161b P, o162b P, o163b P, o164b P, o165b P, o166b P, o167b P, o168b P, o169b P, o170b P, o171b P, o172b P, o173b P, o174b P, o175b P, o176b P, o177b P, o178b P, o179b P, o180b P, o181b P, o182b P, o183b P, o184b P, o185b P, o186b P, o187b P, o188b P, o189b P, o190b P, o191b P, o192b P, o193b P, o194b P, o195b P, o196b P, o197b P, o198b P, o199b P, o200b P, o201b P, o202b P, o203b P, o204b P, o205b P, o206b P, o207c P, o208c P, o209c P, o210c P, o211c P, o212c P, o213c P, o214c P, o215c P, o216c P, o217c P, o218c P, o219c P, o220c P, o221c P, o222c P, o223c P, o224c P, o225c P, o226c P, o227c P, o228c P, o229c P, o230c P, o231c P, o232c P, o233c P, o234c P, o235c P, o236c P, o237c P, o238c P, o239c P, o240c P, o241c P, o242c P, o243c P, o244c P, o245c P, o246c P, o247c P, o248c P, o249c P, o250c P, o251c P, o252c P, o253c P, o254c P, o255c P, o256c P, o257c P, o258c P, o259c P, o260c P, o261c P, o262c P, o263c P, o264c P, o265c P, o266c P, o267c P, o268c P, o269c P, o270c P, o271c P, o272c P, o273c P, o274c P, o275c P, o276c P, o277c P, o278c P, o279c P, o280c P, o281c P, o282c P, o283c P, o284c P, o285c P, o286c P, o287c P, o288c P, o289c P, o290c P, o291c P, o292c P, o293c P, o294c P, o295c P, o296c P, o297c P, o298c P, o299c P, o300c P, o301c P, o302c P, o303c P, o304c P, o305c P, o306c P, o307c P, o308c P, o309c P, o310c P, o311c P, o312c P, o313c P, o314c P, o315c P, o316c P, o317c P, o318c P, o319c P, o320c P, o321c P, o322c P, o323c P, o324c P, o325c P, o326c P, o327c P, o328c P, o329c P, o330c P, o331c P, o332c P, o333c P, o334c P, o335c P, o336c P, o337c P, o338c P, o339c P, o340c P, o341c P, o342c P, o343c P, o344c P, o345c P, o346c P, o347c P, o348c P, o349c P, o350c P, o351c P, o352c P, o353c P, o354c P, o355c P, o356c P, o357c P, o358c P, o359c P, o360c P, o361c P, o362c P, o363c P, o364c P, o365c P, o366c P, o367c P, o368c P, o369c P, o370c P, o371c P, o372c P, o373c P, o374c P, o375c P, o376c P, o377c P, o378c P], {}⟩

def posA : Pos := ⟨8, 0, 8, 10⟩
def posB : Pos := ⟨59, 0, 59, 10⟩
noncomputable abbrev S1 (w : World) (os : OsState) : SharedT := ⟨t0 w.params, 110, {}, Array.mk [], boot_drawn, 845, os⟩
noncomputable abbrev S2 (w : World) (os : OsState) : SharedT := ⟨t1 w.params, 207, {}, Array.mk [], boot_drawn, 995, os⟩
noncomputable abbrev S3 (w : World) (os : OsState) : SharedT := ⟨t2 w.params, 379, {}, Array.mk [], boot_drawn, 1246, os⟩
noncomputable def c1 : List Stmt := pw.main.body.take 5
noncomputable def c2 : List Stmt := (pw.main.body.drop 5).take 25
noncomputable def c3 : List Stmt := pw.main.body.drop 30
theorem cells : behindTheImports pw = c1 ++ (c2 ++ (c3 ++ [])) := by kernel_rfl
theorem segA1 (os : OsState) (w : World) : PySem.W.Fast.tw10110043849684766642 PySem.W.Fast.tw14364793385576792824 pw ((w.withFollow "special-get-raises" false).withFollow "comprehension-iter-twice" false) 11 ann 1 5500 (SB ((w.withFollow "special-get-raises" false).withFollow "comprehension-iter-twice" false) os) (piecesOf c1 envT cT pos0 [topFrame pos0]) = some (.next, S1 ((w.withFollow "special-get-raises" false).withFollow "comprehension-iter-twice" false) os, cT, posA) := by kernel_rfl
theorem segA2 (os : OsState) (w : World) : PySem.W.Fast.tw10110043849684766642 PySem.W.Fast.tw14364793385576792824 pw ((w.withFollow "special-get-raises" true).withFollow "comprehension-iter-twice" false) 11 ann 1 5500 (SB ((w.withFollow "special-get-raises" true).withFollow "comprehension-iter-twice" false) os) (piecesOf c1 envT cT pos0 [topFrame pos0]) = some (.next, S1 ((w.withFollow "special-get-raises" true).withFollow "comprehension-iter-twice" false) os, cT, posA) := by kernel_rfl
theorem segA3 (os : OsState) (w : World) : PySem.W.Fast.tw10110043849684766642 PySem.W.Fast.tw14364793385576792824 pw ((w.withFollow "special-get-raises" false).withFollow "comprehension-iter-twice" true) 11 ann 1 5500 (SB ((w.withFollow "special-get-raises" false).withFollow "comprehension-iter-twice" true) os) (piecesOf c1 envT cT pos0 [topFrame pos0]) = some (.next, S1 ((w.withFollow "special-get-raises" false).withFollow "comprehension-iter-twice" true) os, cT, posA) := by kernel_rfl
theorem segA4 (os : OsState) (w : World) : PySem.W.Fast.tw10110043849684766642 PySem.W.Fast.tw14364793385576792824 pw ((w.withFollow "special-get-raises" true).withFollow "comprehension-iter-twice" true) 11 ann 1 5500 (SB ((w.withFollow "special-get-raises" true).withFollow "comprehension-iter-twice" true) os) (piecesOf c1 envT cT pos0 [topFrame pos0]) = some (.next, S1 ((w.withFollow "special-get-raises" true).withFollow "comprehension-iter-twice" true) os, cT, posA) := by kernel_rfl
theorem segA (os : OsState) : ∀ w : World, segRunT treeTable pw w 11 ann 1 5500 (SB w os) (piecesOf c1 envT cT pos0 [topFrame pos0]) = some (.next, S1 w os, cT, posA) := by
  rw [PySem.W.Fast.te14364793385576792824, PySem.W.Fast.te10110043849684766642]
  exact byRow2 "comprehension-iter-twice" (byRow2 "special-get-raises" (segA1 os) (segA2 os)) (byRow2 "special-get-raises" (segA3 os) (segA4 os))
theorem segB (os : OsState) (w : World) : segRunT treeTable pw w 11 ann 1 1100 (S1 w os) (piecesOf c2 envT cT posA [topFrame pos0]) = some (.next, S2 w os, cT, posB) := by
  rw [PySem.W.Fast.te14364793385576792824, PySem.W.Fast.te10110043849684766642]
  kernel_rfl
theorem segC (os : OsState) (w : World) : segRunT treeTable pw w 11 ann 1 1200 (S2 w os) (piecesOf c3 envT cT posB [topFrame pos0]) = some (.next, S3 w os, cT, posZ) := by
  rw [PySem.W.Fast.te14364793385576792824, PySem.W.Fast.te10110043849684766642]
  kernel_rfl
theorem tZ_abs (P : Params) : absHeap (t2 P) 379 {} = hZ P := by kernel_rfl
theorem run (w : World) (os : OsState) : topRun treeTable pw w 11 ann 7815 (S0 w os) (topStub pw) = some ⟨hZ w.params, Array.mk [], boot_drawn, 1246, os⟩ := by
  have k := fin w (S3 w os).abs
  have k1 : topRun treeTable pw w 11 ann (5500 + (1100 + (1200 + 2))) (SB w os).abs (restOf (behindTheImports pw) envT cT pos0 [topFrame pos0]) = some (S3 w os).abs := by
    rw [cells]
    exact piece_app (segRun_of (segA os w)) (piece_app (segRun_of (segB os w)) (piece_app (segRun_of (segC os w)) k))
  have k2 := go_top (n := 12) (N := 7803) (pre w os) (piece_block (n := 1) (N := 7802) (block w os) k1)
  rw [show (S3 w os).abs = ⟨hZ w.params, Array.mk [], boot_drawn, 1246, os⟩ from by
    show (⟨absHeap (t2 w.params) 379 {}, Array.mk [], boot_drawn, 1246, os⟩ : Shared) = _
    rw [tZ_abs]] at k2
  exact k2
noncomputable def q : Program := view pw [1, 2, 3, 4, 5, 6, 8, 9, 10, 12, 13, 14, 15, 16, 17, 19, 20, 21, 22, 23, 24, 25, 26, 27, 28, 29, 30, 31, 32, 33, 35, 36, 39, 40, 41, 42, 43, 44, 45, 46, 47, 48]
def loose : List Str := [Str.ofString "HALF_TABLE", Str.ofString "TAG_KINDS", Str.ofString "Frame", Str.ofString "pack_frame", Str.ofString "unpack_frame"]
def lv : List (Str × WData) := [(Str.ofString "HALF_TABLE", WData.tuple [WData.int 0, WData.int 498536548, WData.int 997073096, WData.int 651767980, WData.int 1994146192, WData.int 1802195444, WData.int 1303535960, WData.int 1342533948, WData.int 3988292384, WData.int 4027552580, WData.int 3604390888, WData.int 3412177804, WData.int 2607071920, WData.int 2262029012, WData.int 2685067896, WData.int 3183342108]),
  (Str.ofString "TAG_KINDS", WData.tuple [WData.int 33024, WData.int 34984])]
end Lw
end
section
open PySem PySem.W PySem.Calls PyProof.Rows
set_option maxRecDepth 100000
set_option maxHeartbeats 8000000
namespace Lw
noncomputable abbrev sZ (w : World) (os : OsState) : Shared := ⟨hZ w.params, Array.mk [], boot_drawn, 1246, os⟩
noncomputable abbrev mods := importedModules pw.main.body
theorem look1 (w : World) (os : OsState) : (staticsOk mods (boot_heap w.params) (hZ w.params) && namesBound pw (hZ w.params) && gensDone (sZ w os) && laidKept (boot_heap w.params) (hZ w.params)) = true := by kernel_rfl
noncomputable abbrev Xt : Shared → Bool := fun s => xlAt q lv s && recOk PySem.Challenge.rw_pf0385_01.row.records s
theorem look2 (w : World) (os : OsState) : openSeen q loose mods Xt true (sZ w os) = openGood q loose := by
  rw [PySem.W.Fast.te4187177175401517315]
  kernel_rfl
theorem left_of {α : Type} {Yf : Shared → α} {Ya : World → α} (h : ∀ (w : World) (os : OsState), Yf (sZ w os) = Ya w) : LeftO pw q loose Xt Yf Ya 15152 :=
  LeftO.of_pieces (m₀ := 11) (ann := ann) (M := 7815) opened sized run (by decide) fun w => by
    funext os
    exact Prod.ext (look1 w os) (Prod.ext (look2 w os) (h w os))
end Lw
end
section
open PySem PySem.W PySem.Calls PyProof.Rows
set_option maxRecDepth 100000
set_option maxHeartbeats 8000000
namespace Lw
theorem said : OpenLaw.wellSaid PySem.Challenge.rw_pf0385_01 = true := by
  rw [PySem.W.Fast.te9446332074065402090]
  kernel_rfl
end Lw
set_option hygiene false in
local macro_rules | `(tactic| o_law) => `(tactic| refine holds_law Lw.said fun said => ?_)
set_option hygiene false in
local macro_rules | `(tactic| o_head $H) => `(tactic| (
  refine holds_open (d := ?d) (kwd := ?kwd) (q := Lw.q) (loose := Lw.loose) (Xt := Lw.Xt) (XP := XL Lw.q Lw.lv) (Yf := Hook.obs $H) (Ya := Hook.val $H) (YP := Hook.says $H) (N := 15152) ?hl (Hook.of $H) (Hook.keeps $H) (fun s e => xl_of s (Bool.and_eq_true_iff.mp e).1) XL.keeps ?k1 ?k2 ?k3 (fun s e => recFacts_of (Bool.and_eq_true_iff.mp e).2) (by rfl) ?k4 ?k5 ⟨rfl, rfl, rfl, rfl, rfl, by decide +kernel⟩ ?hw ?hc;
  (case k1 => rfl); (case k2 => rfl); (case k3 => rfl); (case k4 => first | assumption | decide +kernel); (case k5 => decide +kernel);
  (case hl => exact Lw.left_of (fun w os => by kernel_rfl))))
open_top Lw.head for PySem.Challenge.rw_pf0385_01
end
section
open PySem PySem.Spec PySem.W PySem.Calls PyProof.Rows
set_option maxRecDepth 100000
set_option maxHeartbeats 8000000
set_option linter.unusedVariables false
namespace Lw
abbrev frs (l : List Env) : List Addr := l.filterMap (·.frame)
theorem frs_cons {env : Env} {L : Addr} {outer : List Env} (hf : env.frame = some L) : frs (env :: outer) = L :: frs outer := by
  show List.filterMap _ _ = _
  rw [List.filterMap_cons, hf]
def Anc (hs g : Heap) (news : List (Addr × Obj)) : Prop := ∀ b o, hs.get? b = some o → g.get? b = some o ∨ (b, o) ∈ news
theorem anc_of {hs h₀ : Heap} {L : Addr} {news : List (Addr × Obj)} (N : News h₀ L hs news) : Anc hs (hideAll hs (news.map (·.1))) news := fun b o e => by
  by_cases hm : b ∈ news.map (·.1)
  · obtain ⟨p, hp, rfl⟩ := List.mem_map.mp hm
    have := (N p hp).1
    rw [e] at this
    cases this
    exact .inr hp
  · exact .inl (hideAll_get _ e hm)
section
variable {A₀ : Around} {base h₀ hs : Heap} {outer : List Env} {L : Addr} {m : Str → Option Value} {news : List (Addr × Obj)} {env : Env} {A : Around}
theorem ground_in (B : Below A₀ base outer h₀) (F : Fr h₀ L hs m) (N : News h₀ L hs news) (D : KtsDicts (frs outer) h₀) (hA : A.frames = some (env :: outer)) (hf : env.frame = some L) (hke : env.scope.kind = .function) :
    Below A base (env :: outer) (hideAll hs (news.map (·.1))) ∧ KtsDicts (frs (env :: outer)) (hideAll hs (news.map (·.1))) ∧ h₀.StaysIn (hideAll hs (news.map (·.1))) ∧
    ∀ (g' h' : Heap) (L' : Addr) (m' : Str → Option Value) (news' : List (Addr × Obj)), KtsTurn (frs (env :: outer)) (hideAll hs (news.map (·.1))) g' → Fr g' L' h' m' → News g' L' h' news' →
      ∃ h₀', KtsTurn (frs outer) h₀ h₀' ∧ Below A₀ base outer h₀' ∧ Fr h₀' L h' m ∧ News h₀' L h' news' := by
  have nm : ∀ b o, h₀.get? b = some o → b ∉ news.map (·.1) := fun b o e q => by
    obtain ⟨p, hp, rfl⟩ := List.mem_map.mp q
    rw [(N p hp).2.2] at e; cases e
  have st : h₀.StaysIn (hideAll hs (news.map (·.1))) := fun b o e => hideAll_get _ (F.keep b o e) (nm b o e)
  obtain ⟨oL, es, ep, hL, hLd, hLk, hLf⟩ := F.ns
  have nL : L ∉ news.map (·.1) := fun q => by
    obtain ⟨p, hp, e⟩ := List.mem_map.mp q
    exact (N p hp).2.1 e
  have hLg := hideAll_get (news.map (·.1)) hL nL
  have B₁ := pushX B F hf hke
  have nL₀ : h₀.get? L = none := kts_self F
  refine ⟨⟨hA, fun b o e => st b o (B.stays b o e), funFrames_hideAll B₁.frames fun env' he b hb hf' => ?_⟩, fun b hb => ?_, st, fun g' h' L' m' news' T' F' N' => ?_⟩
  · cases he with
    | head => exact nL ((Option.some.inj (hf.symm.trans hf') : L = b) ▸ hb)
    | tail _ he =>
      obtain ⟨L₁, o₁, hf₁, ho₁⟩ := funFrames_in B.frames env' he
      rw [hf₁] at hf'
      exact nm L₁ o₁ ho₁ ((Option.some.inj hf' : L₁ = b) ▸ hb)
  · rw [frs_cons hf] at hb
    rcases List.mem_cons.mp hb with rfl | hb
    · exact ⟨oL, es, ep, hLg, hLd⟩
    · obtain ⟨o, es', n', ho', hd'⟩ := D b hb
      exact ⟨o, es', n', st b o ho', hd'⟩
  · obtain ⟨sl, hsl⟩ := T'.up hLg
    obtain ⟨T₁, S₁⟩ := kts_turn_at (h := h') (fs := frs outer) (g := h₀)
      (fun b hb => by
        obtain ⟨_, o, ho', _⟩ := B.frames.mem hb
        exact ⟨o, ho'⟩)
      (fun b o e nmem => F'.keep b o (T'.other b o (st b o e) (fun q => by
        rw [frs_cons hf] at q
        rcases List.mem_cons.mp q with z | z
        · rw [z, nL₀] at e
          cases e
        · exact nmem z)))
      (fun b o e hm => by
        obtain ⟨sl', hs'⟩ := T'.up (st b o e)
        exact ⟨sl', F'.keep _ _ hs'⟩)
    have B₃ : Below A₀ base outer (ktsHeap h' (frs outer) h₀) := ⟨B.stack, fun b o e => T₁.other b o (B.stays b o e) (fun hm => by
      rw [(B.frames.mem hm).1] at e
      cases e), B.frames.of_keeps fun b o e _ => by
      obtain ⟨sl', hs'⟩ := T₁.up e
      exact ⟨_, hs', rfl⟩⟩
    refine ⟨_, T₁, B₃, ⟨⟨_, es, ep, F'.keep _ _ hsl, hLd, hLk, hLf⟩, S₁, by rw [T₁.size]; exact F.above⟩, fun p hp => ⟨(N' p hp).1, fun q => ?_, ?_⟩⟩
    · have := (N' p hp).2.2; rw [q, hsl] at this; cases this
    · refine T₁.none_ _ ?_
      cases q : h₀.get? p.1 with
      | none => rfl
      | some o =>
        obtain ⟨sl', hs'⟩ := T'.up (st _ _ q)
        have := (N' p hp).2.2
        rw [hs'] at this
        cases this
end

def Flew (base : Heap) (l : List Env) (e : Addr) (cls : Value) (h h' : Heap) : Prop :=
  (∃ B a0, base.StaysIn B ∧ (∀ b o, h.get? b = some o → b ∉ frs l → B.get? b = some o) ∧ Heap.FlyingW B l e cls a0 h') ∧ h.UpToSlots h'

section
variable {M : Model} {A A' : Around} {E : Value → Shared → Prop} {s' : Shared} {base hs g gk h₁ : Heap} {l : List Env} {L' e : Addr} {m' : Str → Option Value} {env' : Env} {Q : Unit → Shared → Prop} {news news' : List (Addr × Obj)} {cls : Value}
theorem kept_of (AN : Anc hs g news) (TT : KtsTurn (frs l) g gk) (F' : Fr gk L' h₁ m') (N' : News gk L' h₁ news') (sub : ∀ q ∈ news, q ∈ news') :
    (∀ b o, hs.get? b = some o → b ∉ frs l → h₁.get? b = some o) ∧ hs.UpToSlots h₁ := by
  refine ⟨fun b o e nm => ?_, fun b o e _ => ?_⟩
  · rcases AN b o e with q | q
    · exact F'.keep _ _ (TT.other b o q nm)
    · exact (N' _ (sub _ q)).1
  · rcases AN b o e with q | q
    · obtain ⟨sl, z⟩ := TT.up q
      exact ⟨sl, F'.keep _ _ z⟩
    · exact ⟨o.slots, (N' _ (sub _ q)).1⟩
theorem leave_first {oe : Obj} {vs : Array Value} {a0 : Value} (B' : Below A base l gk) (hf : env'.frame = some L') (hke : env'.scope.kind = .function) (hA' : A'.frames = some (env' :: l))
    (AN : Anc hs g news) (TT : KtsTurn (frs l) g gk) (F' : Fr gk L' h₁ m') (N' : News gk L' h₁ news') (sub : ∀ q ∈ news, q ∈ news') (hk : ∀ b o, h₁.get? b = some o → s'.heap.get? b = some o)
    (hn : h₁.get? e = none) (he : s'.heap.get? e = some oe) (hc : oe.cls = cls) (hd : oe.data = .fields vs) (h1 : vs[1]? = some .none) (h0 : vs[0]? = some a0)
    (hQ : ∀ h', Flew base l e cls hs h' → Q () { s' with heap := h' }) : wpAny M A' (leaving env' (.ref e)) Q E s' := by
  obtain ⟨kp, up⟩ := kept_of AN TT F' N' sub
  have K' := pushX B' F' hf hke
  have hin : ∀ env ∈ (env' :: l), ∀ b, env.frame = some b → b ∈ frs (env' :: l) := fun env he b hb => List.mem_filterMap.mpr ⟨env, he, hb⟩
  have st : base.StaysIn (hideAll h₁ (frs (env' :: l))) := fun b o q => hideAll_get _ (K'.stays b o q) fun hm => by
    rw [(K'.frames.mem hm).1] at q; cases q
  have sg : ∀ b o, hs.get? b = some o → b ∉ frs l → (hideAll h₁ (frs (env' :: l))).get? b = some o := fun b o q nm => hideAll_get _ (kp b o q nm) fun hm => by
    rw [frs_cons hf] at hm
    rcases List.mem_cons.mp hm with z | z
    · subst z
      have nb := kts_self F'
      rcases AN b o q with y | y
      · obtain ⟨sl, z⟩ := TT.up y
        rw [nb] at z
        cases z
      · exact (N' _ (sub _ y)).2.1 rfl
    · exact nm z
  have hen : (hideAll h₁ (frs (env' :: l))).get? e = none := by
    cases q : (hideAll h₁ (frs (env' :: l))).get? e with
    | none => rfl
    | some o => have := of_hideAll _ q; rw [hn] at this; cases this
  refine wpAny_leaving_firstW (a0 := a0) hA' ((funFrames_hide K'.frames hin).of_keeps fun b o hb _ => ⟨o, hk b o hb, rfl⟩) hf he (fun b o hb => hk b o (of_hideAll _ hb)) hen hd h1 h0 fun h' hL => ?_
  obtain ⟨k1, ⟨_, _, k2⟩, k3, k4⟩ := hL
  exact hQ h' ⟨⟨_, a0, st, sg, k1, hen, k2, hc ▸ k3⟩, (up.trans (Heap.UpToSlots.of_keeps hk)).trans k4⟩
theorem leave_next (hf : env'.frame = some L') (hA' : A'.frames = some (env' :: l))
    (AN : Anc hs g news) (TT : KtsTurn (frs l) g gk) (F' : Fr gk L' h₁ m') (N' : News gk L' h₁ news') (sub : ∀ q ∈ news, q ∈ news') (R : Flew base (env' :: l) e cls h₁ s'.heap)
    (hQ : ∀ h', Flew base l e cls hs h' → Q () { s' with heap := h' }) : wpAny M A' (leaving env' (.ref e)) Q E s' := by
  obtain ⟨kp, up⟩ := kept_of AN TT F' N' sub
  obtain ⟨⟨B, a0, hB, hBG, hfl⟩, ups⟩ := R
  refine wpAny_leaves_onW hA' hf hfl fun h' x1 x2 => hQ h' ⟨⟨B, a0, hB, fun b o q nm => hBG b o (kp b o q nm) (fun hm => ?_), x1⟩, (up.trans ups).trans x2⟩
  rw [frs_cons hf] at hm
  rcases List.mem_cons.mp hm with z | z
  · subst z
    have nb := kts_self F'
    rcases AN b o q with y | y
    · obtain ⟨sl, z⟩ := TT.up y
      rw [nb] at z
      cases z
    · exact (N' _ (sub _ y)).2.1 rfl
  · exact nm z
end
end Lw
end
section
open PySem PySem.Spec PySem.W PySem.Calls PyProof.Rows
set_option maxRecDepth 100000
set_option maxHeartbeats 8000000
set_option linter.unusedVariables false
namespace Lw
def EndC (fs : List Addr) (g : Heap) (s : Shared) (Post : Value → List (Addr × Obj) → Prop) (v : Value) (s' : Shared) : Prop :=
  ∃ g' L' m' news' h' tk', s' = { s with heap := h', toks := tk' } ∧ Post v news' ∧ KtsTurn fs g g' ∧ Fr g' L' h' m' ∧ News g' L' h' news'
def EscC (base : Heap) (l : List Env) (s : Shared) (PE : Value → Prop) (v : Value) (s' : Shared) : Prop :=
  ∃ e cls h' tk', v = .ref e ∧ s' = { s with heap := h', toks := tk' } ∧ PE cls ∧ Flew base l e cls s.heap h'
def Back (A₀ : Around) (base : Heap) (outer : List Env) (env : Env) (h₀ : Heap) (L : Addr) (m : Str → Option Value) (s : Shared) (Post : Value → List (Addr × Obj) → Prop) (PE : Value → Prop) (R : Result → Shared → Prop) : Prop :=
  (∀ r h₀' h' tk' news', Post r news' → KtsTurn (frs outer) h₀ h₀' → Below A₀ base outer h₀' → Fr h₀' L h' m → News h₀' L h' news' → R (.ok (.ret r)) { s with heap := h', toks := tk' }) ∧
  (∀ e cls h' tk', PE cls → Flew base (env :: outer) e cls s.heap h' → R (.error (.ref e)) { s with heap := h', toks := tk' })
section
variable {prog : Program} {w : World} {A A₀ : Around} {base h₀ : Heap} {outer : List Env} {L : Addr} {m : Str → Option Value} {news : List (Addr × Obj)} {env : Env} {s : Shared} {R : Result → Shared → Prop}
  {Post : Value → List (Addr × Obj) → Prop} {PE : Value → Prop} {K : Frag} {p : Program} {loose : List Str} {mean : ExcName → Option Value} {mg mb : Str → Option Value}
theorem esc_of (k : Back A₀ base outer env h₀ L m s Post PE R) {v : Value} {s' : Shared} (x : EscC base (env :: outer) s PE v s') : R (.error v) s' := by
  obtain ⟨e, cls, h', tk', rfl, rfl, x1, x2⟩ := x
  exact k.2 e cls h' tk' x1 x2
theorem enter_def {name qual : Str} {params : Arguments} {body : List Stmt} {scope : Scope} {cl : List (Str × Addr)} {dV kV doc pm cdv ct oc : Value} {an od : Option Addr} {osl : Array (Option Value)} {f : Addr} {args : Args} {binds : List (Str × Value)}
    (B : Below A₀ base outer h₀) (F : Fr h₀ L s.heap m) (N : News h₀ L s.heap news) (D : KtsDicts (frs outer) h₀) (XB : K.In base) (TB : Top p loose mean mg mb base) (hA : A.frames = some (env :: outer)) (hf : env.frame = some L) (hke : env.scope.kind = .function)
    (ho : K.lookup f = some ⟨oc, od, .func (fnX name qual params body scope cl dV kV doc pm an cdv ct), osl⟩) (hcd : codeIn K cdv qual = true) (hroom : A.depth < recursionLimit)
    (hbind : K.In s.heap → BindsTo s (fnX name qual params body scope cl dV kV doc pm an cdv ct) args binds) (hloc : ∀ y ∈ binds, scope.names.lookup y.1 = some .local)
    (k : Back A₀ base outer env h₀ L m s Post PE R)
    (h : ∀ g L' h₁, Anc s.heap g news → Fr g L' h₁ (fun y => binds.reverse.lookup y) → News g L' h₁ news → (∀ p ∈ news, p.1 < L') → Below A base (env :: outer) g → KtsDicts (frs (env :: outer)) g → K.In g → Top p loose mean mg mb g →
      wpAny (model prog w) (A.deeper (envX qual scope L' f cdv cl)) (execs body (envX qual scope L' f cdv cl))
        (fun fl s' => EndC (frs (env :: outer)) g s Post (match fl with | .ret v => v | _ => .none) s')
        (fun e s' => wpAny (model prog w) (A.deeper (envX qual scope L' f cdv cl)) (leaving (envX qual scope L' f cdv cl) e) (fun _ s'' => EscC base (env :: outer) s PE e s'') (fun e' s'' => EscC base (env :: outer) s PE e' s'') s')
        { s with heap := h₁, toks := s.toks + binds.length })
    (hcell : ∀ x ∈ scope.names, x.2 ≠ .cell) (hco : scope.isCoroutine = false := by rfl) (hgen : scope.isGenerator = false := by rfl) (hk : scope.kind = .function := by rfl) : codeAny (model prog w) A (.call (.ref f) args) R s := by
  obtain ⟨BG, DG, st, lv⟩ := ground_in B F N D hA hf hke
  have XH := XB.keeps fun b o e => F.keep b o (B.stays b o e)
  refine codeAny_call_def (fd := fnX name qual params body scope cl dV kV doc pm an cdv ct) (body := body) (binds := binds) hroom (XH _ _ ho) rfl (TB.nolimit.keeps fun b o e => F.keep b o (B.stays b o e)) (codeRec_of XH hcd) rfl (hbind XH) hcell hloc (fun h₁ hns hk₁ => ?_) hco hgen hk
  refine wpAny_mono (h _ s.heap.objs.size h₁ (anc_of N) ⟨hns, fun b o e => hk₁ b o (of_hideAll _ e), Nat.le_of_eq (hideAll_size _ _)⟩
    (fun p hp => ⟨hk₁ _ _ (N p hp).1, Nat.ne_of_lt (Heap.lt_size (N p hp).1), hideAll_none _ (List.mem_map_of_mem hp)⟩) (fun p hp => Heap.lt_size (N p hp).1) BG DG (XB.keeps BG.stays) (TB.keeps BG.stays)) (fun fl s' hl => ?_) fun e s' hl => ?_
  · obtain ⟨g', L', m', news', h', tk', rfl, x1, x2, x3, x4⟩ := hl
    obtain ⟨h₀', y1, y2, y3, y4⟩ := lv _ _ _ _ _ x2 x3 x4
    exact k.1 _ h₀' h' tk' news' x1 y1 y2 y3 y4
  · exact wpAny_mono hl (fun _ _ x => esc_of k x) fun _ _ x => esc_of k x
theorem enter_cells {name qual : Str} {params : Arguments} {body : List Stmt} {scope : Scope} {dV kV doc pm cdv ct oc : Value} {an od : Option Addr} {osl : Array (Option Value)} {f : Addr} {args : Args} {binds : List (Str × Value)}
    (B : Below A₀ base outer h₀) (F : Fr h₀ L s.heap m) (N : News h₀ L s.heap news) (D : KtsDicts (frs outer) h₀) (XB : K.In base) (TB : Top p loose mean mg mb base) (hA : A.frames = some (env :: outer)) (hf : env.frame = some L) (hke : env.scope.kind = .function)
    (ho : K.lookup f = some ⟨oc, od, .func (fnX name qual params body scope [] dV kV doc pm an cdv ct), osl⟩) (hcd : codeIn K cdv qual = true) (hroom : A.depth < recursionLimit)
    (hbind : K.In s.heap → BindsTo s (fnX name qual params body scope [] dV kV doc pm an cdv ct) args binds) (hkind : (binds.all fun y => scope.names.lookup y.1 == some .local || scope.names.lookup y.1 == some .cell) = true)
    (hnd : ((cellsFrom 0 scope.names []).map (·.1)).Nodup)
    (k : Back A₀ base outer env h₀ L m s Post PE R)
    (h : ∀ g L' h₁ tk cells, Anc s.heap g news → Fr g L' h₁ (bindL (envOfC qual scope L' f cdv).kindOf binds fun _ => none) → News g L' h₁ (cells ++ news) → CellsAre (bindC (envOfC qual scope L' f cdv).kindOf binds fun _ => none) (cellsFrom (L' + 1) scope.names []) cells → (∀ p ∈ news, p.1 < L') →
      Below A base (env :: outer) g → KtsDicts (frs (env :: outer)) g → K.In g → Top p loose mean mg mb g →
      wpAny (model prog w) (A.deeper (envOfC qual scope L' f cdv)) (execs body (envOfC qual scope L' f cdv))
        (fun fl s' => EndC (frs (env :: outer)) g s Post (match fl with | .ret v => v | _ => .none) s')
        (fun e s' => wpAny (model prog w) (A.deeper (envOfC qual scope L' f cdv)) (leaving (envOfC qual scope L' f cdv) e) (fun _ s'' => EscC base (env :: outer) s PE e s'') (fun e' s'' => EscC base (env :: outer) s PE e' s'') s')
        { s with heap := h₁, toks := tk })
    (hco : scope.isCoroutine = false := by rfl) (hgen : scope.isGenerator = false := by rfl) (hk : scope.kind = .function := by rfl) : codeAny (model prog w) A (.call (.ref f) args) R s := by
  obtain ⟨BG, DG, st, lv⟩ := ground_in B F N D hA hf hke
  have XH := XB.keeps fun b o e => F.keep b o (B.stays b o e)
  have LH := TB.nolimit.keeps fun b o e => F.keep b o (B.stays b o e)
  refine codeAny_call_function hroom (XH _ _ ho) rfl hco hgen rfl (codeRec_of XH hcd) (hbind XH _ _ _ _ ?_)
  refine wpAny_newFunctionEnv_cells hk (kindsX hkind _) fun env' he s' x => ?_
  subst he
  refine ⟨LH.keeps x.toInCall.keep, codeAny_func ?_⟩
  obtain ⟨h₁, tk, rfl, _⟩ := x.done
  have hk₁ := x.toInCall.keep
  obtain ⟨cells, NC, Y⟩ := Cl.news (h₀ := s.heap) (Nat.le_refl _) fun n c hm => ⟨x.cell n c (lookup_of_mem_nodup (cellsFrom_names scope.names 0 (s.heap.objs.size + 1) [] [] rfl ▸ hnd) hm), x.above n c hm⟩
  refine wpAny_mono (h _ s.heap.objs.size h₁ tk cells (anc_of N) ⟨x.toInCall.ns, fun b o e => hk₁ b o (of_hideAll _ e), Nat.le_of_eq (hideAll_size _ _)⟩ (fun p hp => ?_) Y (fun p hp => Heap.lt_size (N p hp).1) BG DG (XB.keeps BG.stays) (TB.keeps BG.stays)) (fun fl s' hl => ?_) fun e s' hl => ?_
  · rcases List.mem_append.mp hp with hp | hp
    · refine ⟨(NC p hp).1, (NC p hp).2.1, ?_⟩
      cases q : (hideAll s.heap (news.map (·.1))).get? p.1 with
      | none => rfl
      | some o => have := of_hideAll _ q; rw [(NC p hp).2.2] at this; cases this
    · exact ⟨hk₁ _ _ (N p hp).1, Nat.ne_of_lt (Heap.lt_size (N p hp).1), hideAll_none _ (List.mem_map_of_mem hp)⟩
  · obtain ⟨g', L', m', news', h', tk', rfl, x1, x2, x3, x4⟩ := hl
    obtain ⟨h₀', y1, y2, y3, y4⟩ := lv _ _ _ _ _ x2 x3 x4
    exact k.1 _ h₀' h' tk' news' x1 y1 y2 y3 y4
  · exact wpAny_mono hl (fun _ _ x => esc_of k x) fun _ _ x => esc_of k x
theorem enter_lam {name qual : Str} {params : Arguments} {body : PySem.Expr} {scope : Scope} {cl : List (Str × Addr)} {pm ctv : Value} {c' : Addr} {f : Addr} {args : Args} {binds : List (Str × Value)}
    (B : Below A₀ base outer h₀) (F : Fr h₀ L s.heap m) (N : News h₀ L s.heap news) (D : KtsDicts (frs outer) h₀) (XB : K.In base) (TB : Top p loose mean mg mb base) (hA : A.frames = some (env :: outer)) (hf : env.frame = some L) (hke : env.scope.kind = .function)
    (ho : (f, kla_obj name qual params body scope cl pm c' ctv) ∈ news) (hcd : s.heap.CodeRec (.ref c') qual) (hroom : A.depth < recursionLimit)
    (hbind : bindArgs (kla_fn name qual params body scope cl pm (.ref c') ctv) args = pure binds) (hloc : ∀ y ∈ binds, scope.names.lookup y.1 = some .local)
    (k : Back A₀ base outer env h₀ L m s Post PE R)
    (h : ∀ g L' h₁, Anc s.heap g news → Fr g L' h₁ (fun y => binds.reverse.lookup y) → News g L' h₁ news → (∀ p ∈ news, p.1 < L') → Below A base (env :: outer) g → KtsDicts (frs (env :: outer)) g → K.In g → Top p loose mean mg mb g →
      wpAny (model prog w) (A.deeper (envX qual scope L' f (.ref c') cl)) (eval body (envX qual scope L' f (.ref c') cl))
        (fun v s' => EndC (frs (env :: outer)) g s Post v s')
        (fun e s' => wpAny (model prog w) (A.deeper (envX qual scope L' f (.ref c') cl)) (leaving (envX qual scope L' f (.ref c') cl) e) (fun _ s'' => EscC base (env :: outer) s PE e s'') (fun e' s'' => EscC base (env :: outer) s PE e' s'') s')
        { s with heap := h₁, toks := s.toks + binds.length })
    (hcell : ∀ x ∈ scope.names, x.2 ≠ .cell) (hco : scope.isCoroutine = false := by rfl) (hgen : scope.isGenerator = false := by rfl) (hk : scope.kind = .function := by rfl) : codeAny (model prog w) A (.call (.ref f) args) R s := by
  obtain ⟨BG, DG, st, lv⟩ := ground_in B F N D hA hf hke
  have LH := TB.nolimit.keeps fun b o e => F.keep b o (B.stays b o e)
  refine kla_callFunE hroom (N _ ho).1 rfl hco hgen rfl hcd ?_
  rw [hbind]
  refine wpAny_pure (wpAny_newFunctionEnv hcell hloc (fun h₁ hns hsb => ⟨LH.fresh _ hsb, ?_⟩) hk)
  show codeAny _ _ (.expr body (envX qual scope s.heap.objs.size f (.ref c') cl)) _ _
  have hk₁ : ∀ b o, s.heap.get? b = some o → h₁.get? b = some o := fun b o e => hsb.extBut b o (Nat.ne_of_lt (Heap.lt_size e)) (Heap.get?_push_of_some _ e)
  refine kla_codeExpr (wpAny_mono (h _ s.heap.objs.size h₁ (anc_of N) ⟨hns, fun b o e => hk₁ b o (of_hideAll _ e), Nat.le_of_eq (hideAll_size _ _)⟩
    (fun p hp => ⟨hk₁ _ _ (N p hp).1, Nat.ne_of_lt (Heap.lt_size (N p hp).1), hideAll_none _ (List.mem_map_of_mem hp)⟩) (fun p hp => Heap.lt_size (N p hp).1) BG DG (XB.keeps BG.stays) (TB.keeps BG.stays)) (fun v s' hl => ?_) fun e s' hl => ?_)
  · obtain ⟨g', L', m', news', h', tk', rfl, x1, x2, x3, x4⟩ := hl
    obtain ⟨h₀', y1, y2, y3, y4⟩ := lv _ _ _ _ _ x2 x3 x4
    exact k.1 _ h₀' h' tk' news' x1 y1 y2 y3 y4
  · exact wpAny_mono hl (fun _ _ x => esc_of k x) fun _ _ x => esc_of k x
end
end Lw
end
section
open PySem PySem.Spec PySem.W PySem.Calls PyProof.Rows
set_option maxRecDepth 100000
set_option maxHeartbeats 8000000
set_option linter.unusedVariables false
namespace Lw
abbrev At (dp un : Nat) (gd : Option (List Code)) (l : List Env) : Around := { handled := none, depth := dp, frames := some l, guards := gd, units := un }
def ConT (w : World) (base : Heap) (dn un' : Nat) (f : Addr) (vs : List Value) (news : List (Addr × Obj)) (Post : Value → List (Addr × Obj) → Prop) (PE : Value → Prop) : Prop :=
  ∀ (dp un : Nat) (gd : Option (List Code)) (cn : Str) (cs : Scope) (a : Addr) (ccd : Value) (cl : List (Str × Addr)) (outer : List Env) (A₀ : Around) (h₀ : Heap) (L : Addr) (m : Str → Option Value) (s : Shared) (Q E : Value → Shared → Prop),
    Below A₀ base outer h₀ → Fr h₀ L s.heap m → News h₀ L s.heap news → KtsDicts (frs outer) h₀ → cs.kind = .function → dp + dn < recursionLimit → un + un' < cLine →
    (∀ r h₀' h' tk' news', Post r news' → KtsTurn (frs outer) h₀ h₀' → Below A₀ base outer h₀' → Fr h₀' L h' m → News h₀' L h' news' → Q r { s with heap := h', toks := tk' }) →
    (∀ e cls h' tk', PE cls → Flew base (envX cn cs L a ccd cl :: outer) e cls s.heap h' → E (.ref e) { s with heap := h', toks := tk' }) →
    wpAny (model PySem.Challenge.pw_pf0385_01 w) (At dp un gd (envX cn cs L a ccd cl :: outer)) (call (.ref f) vs) Q E s
section
variable {w : World} {p : Program} {loose : List Str} {mean : ExcName → Option Value} {mg mb : Str → Option Value} {base : Heap} {dn un' : Nat} {f : Addr} {vs : List Value} {news : List (Addr × Obj)} {Post : Value → List (Addr × Obj) → Prop} {PE : Value → Prop}
theorem conT_def {name qual : Str} {params : Arguments} {body : List Stmt} {scope : Scope} {cl : List (Str × Addr)} {dV kV doc pm cdv ct oc : Value} {an od : Option Addr} {osl : Array (Option Value)} {binds : List (Str × Value)}
    (XB : (Lw.head.heap_1 w.params).In base) (TB : Top p loose mean mg mb base)
    (ho : (Lw.head.heap_1 w.params).lookup f = some ⟨oc, od, .func (fnX name qual params body scope cl dV kV doc pm an cdv ct), osl⟩) (hcd : codeIn (Lw.head.heap_1 w.params) cdv qual = true)
    (hbind : ∀ s : Shared, (Lw.head.heap_1 w.params).In s.heap → BindsTo s (fnX name qual params body scope cl dV kV doc pm an cdv ct) ⟨vs, []⟩ binds) (hloc : ∀ y ∈ binds, scope.names.lookup y.1 = some .local) (hdn : 1 ≤ dn)
    (h : ∀ (dp un : Nat) (gd : Option (List Code)) (l : List Env) (s : Shared) (g : Heap) (L' : Addr) (h₁ : Heap), dp + dn < recursionLimit → un + un' < cLine → Anc s.heap g news → Fr g L' h₁ (fun y => binds.reverse.lookup y) → News g L' h₁ news → (∀ p ∈ news, p.1 < L') → Below (At dp un gd l) base l g →
      KtsDicts (frs l) g → (Lw.head.heap_1 w.params).In g → Top p loose mean mg mb g → KtsTurn (frs l) g g →
      wpAny (model PySem.Challenge.pw_pf0385_01 w) ((At dp un gd l).deeper (envX qual scope L' f cdv cl)) (execs body (envX qual scope L' f cdv cl))
        (fun fl s' => EndC (frs l) g s Post (match fl with | .ret v => v | _ => .none) s')
        (fun e s' => wpAny (model PySem.Challenge.pw_pf0385_01 w) ((At dp un gd l).deeper (envX qual scope L' f cdv cl)) (leaving (envX qual scope L' f cdv cl) e) (fun _ s'' => EscC base l s PE e s'') (fun e' s'' => EscC base l s PE e' s'') s')
        { s with heap := h₁, toks := s.toks + binds.length })
    (hcell : ∀ x ∈ scope.names, x.2 ≠ .cell) (hco : scope.isCoroutine = false) (hgen : scope.isGenerator = false) (hk : scope.kind = .function) : ConT w base dn un' f vs news Post PE := by
  intro dp un gd cn cs a ccd cl₀ outer A₀ h₀ L m s Q E B F N D hcs hdp hun hret hesc
  refine wpAny_call ?_
  exact enter_def (A := At dp un gd (envX cn cs L a ccd cl₀ :: outer)) (env := envX cn cs L a ccd cl₀) B F N D XB TB rfl rfl hcs ho hcd (by show dp < recursionLimit; omega) (hbind s) hloc
    ⟨fun r h₀' h' tk' news' x1 x2 x3 x4 x5 => hret r h₀' h' tk' news' x1 x2 x3 x4 x5, fun e cls h' tk' x1 x2 => hesc e cls h' tk' x1 x2⟩
    (fun g L' h₁ AN F' N' l1 BG DG XG TG => h dp un gd _ s g L' h₁ hdp hun AN F' N' l1 BG DG XG TG .refl) hcell hco hgen hk
theorem conT_defC {name qual : Str} {params : Arguments} {body : List Stmt} {scope : Scope} {dV kV doc pm cdv ct oc : Value} {an od : Option Addr} {osl : Array (Option Value)} {binds : List (Str × Value)}
    (XB : (Lw.head.heap_1 w.params).In base) (TB : Top p loose mean mg mb base)
    (ho : (Lw.head.heap_1 w.params).lookup f = some ⟨oc, od, .func (fnX name qual params body scope [] dV kV doc pm an cdv ct), osl⟩) (hcd : codeIn (Lw.head.heap_1 w.params) cdv qual = true)
    (hbind : ∀ s : Shared, (Lw.head.heap_1 w.params).In s.heap → BindsTo s (fnX name qual params body scope [] dV kV doc pm an cdv ct) ⟨vs, []⟩ binds)
    (hkind : (binds.all fun y => scope.names.lookup y.1 == some .local || scope.names.lookup y.1 == some .cell) = true) (hnd : ((cellsFrom 0 scope.names []).map (·.1)).Nodup) (hdn : 1 ≤ dn)
    (h : ∀ (dp un : Nat) (gd : Option (List Code)) (l : List Env) (s : Shared) (g : Heap) (L' : Addr) (h₁ : Heap) (tk : Nat) (cells : List (Addr × Obj)), dp + dn < recursionLimit → un + un' < cLine → Anc s.heap g news →
      Fr g L' h₁ (bindL (envOfC qual scope L' f cdv).kindOf binds fun _ => none) → News g L' h₁ (cells ++ news) → CellsAre (bindC (envOfC qual scope L' f cdv).kindOf binds fun _ => none) (cellsFrom (L' + 1) scope.names []) cells → (∀ p ∈ news, p.1 < L') →
      Below (At dp un gd l) base l g → KtsDicts (frs l) g → (Lw.head.heap_1 w.params).In g → Top p loose mean mg mb g → KtsTurn (frs l) g g →
      wpAny (model PySem.Challenge.pw_pf0385_01 w) ((At dp un gd l).deeper (envOfC qual scope L' f cdv)) (execs body (envOfC qual scope L' f cdv))
        (fun fl s' => EndC (frs l) g s Post (match fl with | .ret v => v | _ => .none) s')
        (fun e s' => wpAny (model PySem.Challenge.pw_pf0385_01 w) ((At dp un gd l).deeper (envOfC qual scope L' f cdv)) (leaving (envOfC qual scope L' f cdv) e) (fun _ s'' => EscC base l s PE e s'') (fun e' s'' => EscC base l s PE e' s'') s')
        { s with heap := h₁, toks := tk })
    (hco : scope.isCoroutine = false) (hgen : scope.isGenerator = false) (hk : scope.kind = .function) : ConT w base dn un' f vs news Post PE := by
  intro dp un gd cn cs a ccd cl₀ outer A₀ h₀ L m s Q E B F N D hcs hdp hun hret hesc
  refine wpAny_call ?_
  exact enter_cells (A := At dp un gd (envX cn cs L a ccd cl₀ :: outer)) (env := envX cn cs L a ccd cl₀) B F N D XB TB rfl rfl hcs ho hcd (by show dp < recursionLimit; omega) (hbind s) hkind hnd
    ⟨fun r h₀' h' tk' news' x1 x2 x3 x4 x5 => hret r h₀' h' tk' news' x1 x2 x3 x4 x5, fun e cls h' tk' x1 x2 => hesc e cls h' tk' x1 x2⟩
    (fun g L' h₁ tk cells AN F' N' Y l1 BG DG XG TG => h dp un gd _ s g L' h₁ tk cells hdp hun AN F' N' Y l1 BG DG XG TG .refl) hco hgen hk
theorem conT_use (C : ConT w base dn un' f vs news Post PE) {dp un : Nat} {gd : Option (List Code)} {cn : Str} {cs : Scope} {a : Addr} {ccd : Value} {cl : List (Str × Addr)} {outer : List Env} {A₀ : Around} {h₀ : Heap} {L : Addr} {m : Str → Option Value} {s : Shared} {Q E : Value → Shared → Prop} {A : Around} {prog : Program}
    (hp : prog = PySem.Challenge.pw_pf0385_01) (hA : A = At dp un gd (envX cn cs L a ccd cl :: outer))
    (B : Below A₀ base outer h₀) (F : Fr h₀ L s.heap m) (N : News h₀ L s.heap news) (D : KtsDicts (frs outer) h₀) (hk : cs.kind = .function) (hd : dp + dn < recursionLimit) (hu : un + un' < cLine)
    (hret : ∀ r h₀' h' tk' news', Post r news' → KtsTurn (frs outer) h₀ h₀' → Below A₀ base outer h₀' → Fr h₀' L h' m → News h₀' L h' news' → Q r { s with heap := h', toks := tk' })
    (hesc : ∀ e cls h' tk', PE cls → Flew base (envX cn cs L a ccd cl :: outer) e cls s.heap h' → E (.ref e) { s with heap := h', toks := tk' }) :
    wpAny (model prog w) A (call (.ref f) vs) Q E s := by
  subst hp hA
  exact C dp un gd cn cs a ccd cl outer A₀ h₀ L m s Q E B F N D hk hd hu hret hesc
theorem endT_c {fs : List Addr} {g g' h' : Heap} {s : Shared} {v : Value} {L' : Addr} {m' : Str → Option Value} {news' : List (Addr × Obj)} {tk' : Nat} (F : Fr g' L' h' m') (N : News g' L' h' news') (TT : KtsTurn fs g g') (x : Post v news') : EndC fs g s Post v { s with heap := h', toks := tk' } :=
  ⟨g', L', m', news', h', tk', rfl, x, TT, F, N⟩
theorem esc_c {l : List Env} {s : Shared} {e : Addr} {cls : Value} {h' : Heap} {tk' : Nat} (R : Flew base l e cls s.heap h') (x : PE cls) : EscC base l s PE (.ref e) { s with heap := h', toks := tk' } := ⟨e, cls, h', tk', rfl, rfl, x, R⟩
end
end Lw
end
section
open PySem PySem.W
set_option maxRecDepth 100000
set_option maxHeartbeats 400000
set_option linter.unusedVariables false
namespace Lw
theorem kfilled : (PySem.Challenge.rw_pf0385_01, Lw.head.heap_1) = (PySem.Challenge.rw_pf0385_01, Lw.head.heap_1) := by k_fill; rfl
section
variable {prog : Program} {w : World} {A : Around} {R : Result → Shared → Prop} {E : Value → Shared → Prop} {h : Heap} {g : Array GenState} {d : Drawn} {t : Nat} {os : OsState}
variable {nm q : Str} {C N : Addr} {bs bm bmB : List Value} {hdct : Bool} {sn : List Str} {sub : List Value} {ab : Bool} {col : Option Bool} {dd : Option Addr} {k0 k1 k2 k3 k5 : Option Value} {B newId initId : String}
theorem exc_new (Fn : ExcBaseFacts B newId initId bmB) (hcB : (Value.ref C :: bm).contains (.type B) = true) (hcA : (Value.ref C :: bm).contains (.type "AttributeError") = false) (hcN : (Value.ref C :: bm).contains (.type "NameError") = false)
    {rest : List Value} (hC : h.get? C = some (excClassObj nm q C N bs bm hdct sn sub ab col dd k0 k1 k2 k3 k5 newId))
    (hq : R (.ok (.ret (.ref (h.objs.size + 1)))) ⟨(h.push { cls := .type "tuple", data := .seq rest.toArray }).push
      { cls := .ref C, data := .fields #[.ref h.objs.size, .none, .none, .none, .bool false, .none] }, g, d, t, os⟩) (hrest : rest.length ≤ sizeLine := by size_fits) :
    codeAny (model prog w) A (.builtin newId ⟨.ref C :: rest, []⟩) R ⟨h, g, d, t, os⟩ := by
  have hends := Fn.ends
  refine codeAny_builtinAt Fn.entry ?_
  unfold Builtin.«BaseException.__new__»
  refine wpAt_bind ?_
  show wpAt _ _ _ (stack >>= _) _ _ _
  refine wpAt_bind (wpAt_stack fun p below => wpAt_of_wpAny ?_)
  wp_walk
  refine wpAt_of_wpAny ?_
  rw [Fn.owner]
  repeat (first | with_reducible refine wpAny_madeHere_exc Fn.canon hC ?_ | with_reducible refine wpAny_loadPart_at hC ?_ | (with_reducible refine wpAny_isSubtype_exc hC ?_; first | rw [hcB] | rw [hcA] | rw [hcN]) | wp_step)
  show R _ _
  rw [Heap.size_push]
  exact hq
theorem exc_check_new (Fn : ExcBaseFacts B newId initId bmB) (hcont : (Value.ref C :: bm).contains (.type B) = true) {M : Model} {rest : List Value} {Q : Unit → Shared → Prop} (hC : h.get? C = some (excClassObj nm q C N bs bm hdct sn sub ab col dd k0 k1 k2 k3 k5 newId))
    (hq : Q () ⟨h, g, d, t, os⟩) : wpAny M A (checkBuiltinCall newId ⟨.ref C :: rest, []⟩) Q E ⟨h, g, d, t, os⟩ := by
  have hstar := Fn.noStar
  simp only [checkBuiltinCall, Fn.newKind, Fn.newSplit, Fn.newRow]
  repeat (first | refine wpAny_loadPart_at hC ?_ | (refine wpAny_isSubtype_exc hC ?_; rw [hcont]) | refine wpAny_staticBase_exc hC ?_ | refine wpAny_madeBy_exc hC ?_ | simp only [bne_self_eq_false, Bool.false_eq_true, if_false] | wp_step)
  exact hq
theorem exc_call {K : Frag} {fI : Addr} (Fn : ExcBaseFacts B newId initId bmB) (hcB : (Value.ref C :: bm).contains (.type B) = true) (hcA : (Value.ref C :: bm).contains (.type "AttributeError") = false) (hcN : (Value.ref C :: bm).contains (.type "NameError") = false)
    (X : K.In h) (hi : findIn K (.ref C) "__init__" = some (some (.ref fI))) (hf : typeIn K (.ref fI) = some (.type "function"))
    {rest : List Value} {Q : Value → Shared → Prop} (hC : h.get? C = some (excClassObj nm q C N bs bm hdct sn sub ab col dd k0 k1 k2 k3 k5 newId))
    (hq : codeAny (model prog w) (A.under (.builtin "type.__call__" ⟨.ref C :: rest, []⟩)) (.call (.ref fI) ⟨.ref (h.objs.size + 1) :: rest, []⟩)
      (InitBack (h.objs.size + 1) fun r s' => match r with | .ok (.ret v) => Q v s' | .ok _ => False | .error e => E e s')
      ⟨(h.push { cls := .type "tuple", data := .seq rest.toArray }).push { cls := .ref C, data := .fields #[.ref h.objs.size, .none, .none, .none, .bool false, .none] }, g, d, t, os⟩)
    (hrest : rest.length ≤ sizeLine) : wpAny (model prog w) A (call (.ref C) rest) Q E ⟨h, g, d, t, os⟩ := by
  have f1 := tc_lookup
  have f2 := tc_bind (.ref C)
  have hT : (⟨h, g, d, t, os⟩ : Shared).TypeIs (.ref C) "type" := ⟨_, hC, rfl⟩
  refine wpAny_call (codeAny_of_tree ?_)
  show wpAny _ _ (callAny (.ref C) _) _ _ _
  repeat (any_goals (first | assumption | with_reducible refine wpAny_loadPart_at hC ?_ | wp_step))
  refine ⟨rfl, ?_⟩
  refine codeAny_call_builtin_at (Code.quiet_builtin _ (by decide +kernel)) entry_typeCall (wpAny_check_type_call_sub hC ?_)
  repeat (first | with_reducible refine wpAny_loadPart_at hC ?_ | with_reducible refine wpAny_madeBy_exc hC ?_ | wp_step)
  refine codeAny_call_builtin_code (Code.quiet_builtin _ Fn.quiet) (exc_check_new Fn hcB hC ?_)
  refine exc_new Fn hcB hcA hcN hC ?_ hrest
  show wpAny _ _ _ _ _ _
  have hC₁ := Heap.get?_push_of_some { cls := .ref C, data := .fields #[.ref h.objs.size, .none, .none, .none, .bool false, .none] }
    (Heap.get?_push_of_some { cls := .type "tuple", data := .seq rest.toArray } hC)
  have X₁ : K.In ((h.push { cls := .type "tuple", data := .seq rest.toArray }).push { cls := .ref C, data := .fields #[.ref h.objs.size, .none, .none, .none, .bool false, .none] }) := X.keeps fun b o e => Heap.get?_push_of_some _ (Heap.get?_push_of_some _ e)
  have hget : ((h.push { cls := .type "tuple", data := .seq rest.toArray }).push
      { cls := .ref C, data := .fields #[.ref h.objs.size, .none, .none, .none, .bool false, .none] }).get? (h.objs.size + 1) = some
      { cls := .ref C, data := .fields #[.ref h.objs.size, .none, .none, .none, .bool false, .none] } := by heap_get
  have hcC : (Value.ref C :: bm).contains (.ref C) = true := by simp
  unfold isInstance
  repeat (first | with_reducible refine wpAny_loadPart_at hget ?_ | (with_reducible refine wpAny_isSubtype_exc hC₁ ?_; rw [hcC]) | wp_step)
  show wpAny _ _ (isSubtype (.ref C) (.ref C)) _ _ _
  refine wpAny_isSubtype_exc hC₁ ?_
  rw [hcC]
  repeat wp_step
  have b1 := bind_fn (M := model prog w) X₁ (.ref (h.objs.size + 1)) hf
  show wpAny _ _ (typeLookup (.ref C) _) _ _ _
  refine (looks_findIn X₁ hi).at ?_
  dsimp only
  repeat (first | with_reducible refine b1.at ?_ | with_reducible refine wpAny_call ?_ | wp_step)
  refine codeAny_mono hq fun r s' z => ?_
  rcases r with e | (v | _ | _ | _) <;> first | exact z | exact z.elim | skip
  obtain ⟨rfl, z⟩ := z
  exact wpAny_pure (wpAny_pure z)
end
end Lw
end
section
open PySem PySem.W PySem.Calls PySem.Builtin PySem.Builtin.ObjectAttr
set_option maxRecDepth 100000
set_option maxHeartbeats 400000
set_option linter.unusedVariables false
set_option pp.maxSteps 3000
set_option pp.deepTerms false
namespace Lw
abbrev exObj (C t : Addr) : Obj := { cls := .ref C, data := .fields #[.ref t, .none, .none, .none, .bool false, .none] }
abbrev exObjD (C t d : Addr) : Obj := { cls := .ref C, dict := some d, data := .fields #[.ref t, .none, .none, .none, .bool false, .none] }
section
variable {prog : Program} {w : World} {A : Around} {E : Value → Shared → Prop} {s : Shared} {K : Frag} {C e t : Addr}
theorem exc_set {mro : List Value} {cd : ClassData} {name : Str} {v : Value} {Q : Unit → Shared → Prop} (X : K.In s.heap) (he : s.heap.get? e = some (exObj C t)) (hc : clsIn K C = some cd) (hm : cd.mro = mro) (hne : mro.isEmpty = false) (hob : mro.contains (.type "object") = true)
    (hD : cd.hasDict = true) (hrf : refuseLoop (.ref e) "__setattr__" mro = pure ()) (hs : findIn K (.ref C) "__setattr__" = some (some (.builtin "object.__setattr__"))) (ht : takerIn K C name = some none)
    (h : ∀ h' d tk', (∀ b o, b ≠ e → s.heap.get? b = some o → h'.get? b = some o) → h'.get? e = some (exObjD C t d) → Q () { s with heap := h', toks := tk' }) :
    wpAny (model prog w) A (setAttr (.ref e) name v) Q E s := by
  have I : InstAt s.heap e (exObj C t) C none := ⟨he, rfl, rfl, trivial⟩
  refine set_plain X I hs ?_
  have SF := PySem.F.store_object
  have sub : Looks (model prog w) s.heap (isInstance (.ref e) (.type "object")) true := I.type.andThen (looks_mroIn X (by unfold mroIn; rw [hc, Option.bind_some, hm, if_neg (by rw [hne]; decide), hob]))
  refine codeAny_call_builtin SF.slot.plain SF.entry (@check_slot (model prog w) _ _ { s with toks := s.toks + 1 } "object.__setattr__" "object" "__setattr__" (.ref e) [.str name s.toks, v] [] _ SF.kind SF.split sub (SF.args (.ref e) (.str name s.toks) v) ?_)
  obtain ⟨attr, ha, hr⟩ := Option.bind_eq_some_iff.mp ht
  have hml : Looks (model prog w) s.heap (mroOf (.ref C)) mro := hm ▸ ((looks_clsIn X hc).andThen .now)
  have L3 : Looks (model prog w) s.heap (storeTaker? attr) none := by
    cases attr with
    | none => exact .now
    | some a =>
      obtain ⟨b, hb, hbn⟩ := Option.map_eq_some_iff.mp hr
      refine (looks_takesIn X hb).andThen ?_
      cases b
      · exact .now
      · cases hbn
  rw [osa_eq, refuse_eq]
  refine wpAny_bind (wpAny_bind (I.type.here (s := { s with toks := s.toks + 1 }) (wpAny_bind (hml.here (s := { s with toks := s.toks + 1 }) ?_))))
  rw [hrf]
  refine wpAny_pure (wpAny_bind (I.type.here (s := { s with toks := s.toks + 1 }) (wpAny_bind ((looks_findIn X ha).here (s := { s with toks := s.toks + 1 }) (wpAny_bind (L3.here (s := { s with toks := s.toks + 1 }) ?_))))))
  dsimp only
  refine wpAny_bind (wpAny_pure (wpAny_bind (wpAny_bind (wpAny_loadPart he (wpAny_bind ((looks_clsIn X hc).here (s := { s with toks := s.toks + 1 }) ?_))))))
  rw [hD]
  have hge : ({ cls := .type "dict", data := .dict #[] } : Obj).isFreed = false := rfl
  have he₁ := Heap.get?_push_of_some { cls := .type "dict", data := .dict #[] } he
  have hd₁ : (s.heap.push { cls := .type "dict", data := .dict #[] }).get? s.heap.objs.size = some { cls := .type "dict", data := .dict #[] } := Heap.get?_push_size _ rfl
  have hne' : e ≠ s.heap.objs.size := Nat.ne_of_lt (Heap.lt_size he)
  have he₂ := Heap.get?_update_self (fun o : Obj => { o with dict := some s.heap.objs.size }) he₁ rfl
  have hd₂ := (Heap.get?_update_other (s.heap.push { cls := .type "dict", data := .dict #[] }) (fun o : Obj => { o with dict := some s.heap.objs.size }) hne').trans hd₁
  show wpAny _ _ (do let d ← alloc { cls := .type "dict", data := .dict #[] }; update e (fun o => { o with dict := some d }); dictMade (exObj C t).cls e d) _ _ _
  refine wpAny_bind (wpAny_alloc (wpAny_bind (wpAny_update he₁ ?_)))
  refine wpAny_bind (wpAny_pure (wpAny_pure ?_))
  dsimp only
  refine wpAny_bind (wpAny_pure (wpAny_bind ?_))
  unfold nsSet
  refine wpAny_bind (wpAny_bind (wpAny_askSetting (wpAny_pure (wpAny_bind (wpAny_mkText (wpAny_bind (wpAny_loadPart hd₂ ?_)))))))
  dsimp only
  rw [aRefKeyMayBeTheName_at]
  simp only [List.any_toArray, List.any_nil, Array.any_empty, Bool.and_false, Bool.false_eq_true, if_false]
  have hD3 : ∀ hsh k v', ((((s.heap.push { cls := .type "dict", data := .dict #[] }).update e (fun o : Obj => { o with dict := some s.heap.objs.size })).update s.heap.objs.size (Obj.putName name hsh k v')).get? s.heap.objs.size = some (dictOf [⟨hsh, k, v'⟩] 1)) := fun hsh k v' => by
    have hput := putName_dict name hsh k v' [] 0
    refine (Heap.get?_update_self _ hd₂ ?_).trans (congrArg some hput)
    show (Obj.putName name hsh k v' (dictOf [] 0)).isFreed = false
    rw [hput]
    rfl
  refine wpAny_updatePart hd₂ ?_
  refine wpAny_bind (wpAny_lookBehind (hD3 _ _ _) (pastItsLine_dict (by simp [sizeLine_eq])) ?_)
  · skip
    refine wpAny_pure (h _ s.heap.objs.size _ (fun b o hb hbo => ?_) ?_)
    · have nb : b ≠ s.heap.objs.size := Nat.ne_of_lt (Heap.lt_size hbo)
      rw [Heap.get?_update_other _ _ (Ne.symm nb), Heap.get?_update_other _ _ (Ne.symm hb)]
      exact Heap.get?_push_of_some _ hbo
    · rw [Heap.get?_update_other _ _ (Ne.symm hne')]
      exact he₂
end
end Lw
end
section
open PySem PySem.W
set_option maxRecDepth 100000
set_option maxHeartbeats 800000
set_option linter.unusedVariables false
set_option pp.maxSteps 3000
set_option pp.deepTerms false
namespace Lw
section
variable {prog : Program} {w : World} {A : Around} {E : Value → Shared → Prop} {h : Heap} {g : Array GenState} {d : Drawn} {t : Nat} {os : OsState} {env : Env}
variable {nm q : Str} {C N : Addr} {bs bm bmB : List Value} {hdct : Bool} {sn : List Str} {sub : List Value} {ab : Bool} {col : Option Bool} {dd : Option Addr} {k0 k1 k2 k3 k5 : Option Value} {B newId nid initId : String}
theorem exc_check_init (F : ExcBaseFacts B nid initId bmB) (hcB : (Value.ref C :: bm).contains (.type B) = true) {M : Model} {e : Addr} {oe : Obj} {rest : List Value} {Q : Unit → Shared → Prop}
    (hC : h.get? C = some (excClassObj nm q C N bs bm hdct sn sub ab col dd k0 k1 k2 k3 k5 newId)) (he : h.get? e = some oe) (hcls : oe.cls = .ref C) (hq : Q () ⟨h, g, d, t, os⟩) :
    wpAny M A (checkBuiltinCall initId ⟨.ref e :: rest, []⟩) Q E ⟨h, g, d, t, os⟩ := by
  have hshort := F.noStar
  simp only [checkBuiltinCall, F.initKind, F.initSplit, F.initRow]
  repeat (first | (with_reducible refine wpAny_loadPart_at he ?_; rw [hcls]) | with_reducible refine wpAny_loadPart_at hC ?_ | (with_reducible refine wpAny_isSubtype_exc hC ?_; rw [hcB]) | wp_step)
  refine wpAny_onRaise ?_
  rw [show ∀ (a b : String) (n : Nat), Bind.check ⟨.positional, "*", B, .self, [⟨"args", .varPos, false⟩]⟩ a b n (List.map (fun x => x.fst) ({ pos := Value.ref e :: rest } : Args).kw) = pure () from
    fun a b n => check_star_args _ _ _ _ _ _]
  exact wpAny_pure hq
theorem exc_init0 (F : ExcBaseFacts B nid initId bmB) (hcB : (Value.ref C :: bm).contains (.type B) = true) {e tt : Addr} {v : Value} {Q : Value → Shared → Prop}
    (hC : h.get? C = some (excClassObj nm q C N bs bm hdct sn sub ab col dd k0 k1 k2 k3 k5 newId)) (he : h.get? e = some (exObj C tt))
    (hq : ∀ h' t', (∀ b o, b ≠ e → h.get? b = some o → h'.get? b = some o) → h'.get? e = some (exObj C t') → Q .none ⟨h', g, d, t, os⟩) :
    wpAny (model prog w) A (call (.builtin initId) [.ref e, v]) Q E ⟨h, g, d, t, os⟩ := by
  refine wpAny_call (codeAny_call_builtin F.init.plain F.initEntry (exc_check_init F hcB hC he rfl ?_))
  wp_walk
  refine hq _ h.objs.size (fun b o hb hbo => ?_) ?_
  · rw [Heap.get?_update_other _ _ (Ne.symm hb)]
    exact Heap.get?_push_of_some _ hbo
  · rw [Heap.get?_update_self _ (Heap.get?_push_of_some _ he) rfl]
    rfl
theorem raise_made {s : Shared} {x : Sem Value} {Q : Flow → Shared → Prop} (hbase : bm.contains (.type "BaseException") = true) (hh : A.handled = none)
    (h : wpAny M A x (fun v s₁ => ∃ e t dx, v = .ref e ∧ s₁.heap.get? C = some (excClassObj nm q C N bs bm hdct sn sub ab col dd k0 k1 k2 k3 k5 newId) ∧
      s₁.heap.get? e = some (exObjD C t dx) ∧ E (.ref e) s₁) E s) :
    wpAny M A (raiseStmt env (some x) none) Q E s := by
  have hcB : (Value.ref C :: bm).contains (.type "BaseException") = true := by rw [List.contains_cons, hbase, Bool.or_true]
  unfold raiseStmt
  refine wpAny_bind (wpAny_mono h (fun v s₁ h₁ => ?_) fun _ _ x => x)
  obtain ⟨e, t, dx, rfl, hC, he, hE⟩ := h₁
  obtain ⟨hp, g, d, tk, os⟩ := s₁
  repeat (first | with_reducible refine wpAny_loadPart_at he ?_ | with_reducible refine wpAny_loadPart_at hC ?_ | (with_reducible refine wpAny_isSubtype_exc hC ?_; rw [hcB]) | wp_step)
  exact wpAny_raiseNew_none hh hE
theorem raise_call {s : Shared} {x : Str} {np cpos pos : Pos} {args : List Expr} {Q : Flow → Shared → Prop}
    (hbase : bm.contains (.type "BaseException") = true) (hh : A.handled = none) (hplain : (backTo cpos (starEach args env)).any (·.1) = false)
    (h : wpAny (model prog w) A (eval (.Name x np) env) (fun f s₁ => f = .ref C ∧ wpAny (model prog w) A (evalArgs (.ref C) true (backTo cpos (starEach args env)) [])
      (fun a s₂ => a.kw = [] ∧ s₂.heap.get? C = some (excClassObj nm q C N bs bm hdct sn sub ab col dd k0 k1 k2 k3 k5 newId) ∧
        wpAny (model prog w) A (call (.ref C) a.pos) (fun v s₃ => ∃ e t dx, v = .ref e ∧ s₃.heap.get? C = some (excClassObj nm q C N bs bm hdct sn sub ab col dd k0 k1 k2 k3 k5 newId) ∧ s₃.heap.get? e = some (exObjD C t dx) ∧ E (.ref e) s₃) E s₂) E s₁) E s) :
    wpAny (model prog w) A (exec (.Raise (some (.Call (.Name x np) args [] cpos)) none pos) env) Q E s := by
  rw [arm_exec_Raise]
  refine wpAny_bind (wpAny_standAt (raise_made (C := C) (nm := nm) (q := q) (N := N) (bs := bs) (bm := bm) (hdct := hdct) (sn := sn) (sub := sub) (ab := ab) (col := col) (dd := dd) (k0 := k0) (k1 := k1) (k2 := k2) (k3 := k3) (k5 := k5) (newId := newId) hbase hh ?_))
  refine wpAny_bind (wpAny_mono (wpAny_Call_ofName (wpAny_mono h (fun f s₁ h₁ => ?_) fun _ _ x => x)) (fun v s₃ h₃ => wpAny_bind (wpAny_standAt (wpAny_pure h₃))) fun _ _ x => x)
  obtain ⟨rfl, h₁⟩ := h₁
  unfold callWith
  refine wpAny_bind (wpAny_holding (wpAny_mono h₁ (fun a s₂ h₂ => wpAny_bind (wpAny_standAt ?_)) fun _ _ x => x))
  obtain ⟨apos, akw⟩ := a
  obtain ⟨hkw, hC, h₂⟩ := h₂
  obtain rfl : akw = [] := hkw
  obtain ⟨hp, g, d, tk, os⟩ := s₂
  simp only [hplain]
  refine wpAny_bind (wpAny_keeperOf_exc hC ?_)
  exact wpAny_bind (wpAny_mono h₂ (fun v s₃ h₃ => wpAny_bind (wpAny_holding (wpAny_point (wpAny_pure h₃)))) fun _ _ x => x)
end
end Lw
end
section
open PySem PySem.Spec PySem.W PySem.Calls PyProof.Rows
set_option maxRecDepth 100000
set_option maxHeartbeats 400000
set_option linter.unusedVariables false
set_option pp.maxSteps 3000
set_option pp.deepTerms false
namespace Lw
def EndK (g : Heap) (s : Shared) (Post : Value → List (Addr × Obj) → Prop) (v : Value) (s' : Shared) : Prop :=
  ∃ L' m' news' h' tk', s' = { s with heap := h', toks := tk' } ∧ Post v news' ∧ Fr g L' h' m' ∧ News g L' h' news'
section
variable {prog : Program} {w : World} {A A₀ : Around} {base h₀ : Heap} {outer : List Env} {L : Addr} {m : Str → Option Value} {news : List (Addr × Obj)} {env : Env} {s : Shared} {R : Result → Shared → Prop}
  {Post : Value → List (Addr × Obj) → Prop} {K : Frag} {p : Program} {loose : List Str} {mean : ExcName → Option Value} {mg mb : Str → Option Value}
theorem enter_keep {name qual : Str} {params : Arguments} {body : List Stmt} {scope : Scope} {cl : List (Str × Addr)} {dV kV doc pm cdv ct oc : Value} {an od : Option Addr} {osl : Array (Option Value)} {f : Addr} {args : Args} {binds : List (Str × Value)}
    (B : Below A₀ base outer h₀) (F : Fr h₀ L s.heap m) (N : News h₀ L s.heap news) (D : KtsDicts (frs outer) h₀) (XB : K.In base) (TB : Top p loose mean mg mb base) (hA : A.frames = some (env :: outer)) (hf : env.frame = some L) (hke : env.scope.kind = .function)
    (ho : K.lookup f = some ⟨oc, od, .func (fnX name qual params body scope cl dV kV doc pm an cdv ct), osl⟩) (hcd : codeIn K cdv qual = true) (hroom : A.depth < recursionLimit)
    (hbind : K.In s.heap → BindsTo s (fnX name qual params body scope cl dV kV doc pm an cdv ct) args binds) (hloc : ∀ y ∈ binds, scope.names.lookup y.1 = some .local)
    (k : ∀ r h' tk' news', Post r news' → (∀ b o, s.heap.get? b = some o → b ∉ news.map (·.1) → h'.get? b = some o) → (∀ p ∈ news', h'.get? p.1 = some p.2) → R (.ok (.ret r)) { s with heap := h', toks := tk' })
    (h : ∀ g L' h₁, Fr g L' h₁ (fun y => binds.reverse.lookup y) → News g L' h₁ news → Below A base (env :: outer) g → K.In g → Top p loose mean mg mb g →
      wpAny (model prog w) (A.deeper (envX qual scope L' f cdv cl)) (execs body (envX qual scope L' f cdv cl))
        (fun fl s' => EndK g s Post (match fl with | .ret v => v | _ => .none) s')
        (fun _ _ => False)
        { s with heap := h₁, toks := s.toks + binds.length })
    (hcell : ∀ x ∈ scope.names, x.2 ≠ .cell) (hco : scope.isCoroutine = false := by rfl) (hgen : scope.isGenerator = false := by rfl) (hk : scope.kind = .function := by rfl) : codeAny (model prog w) A (.call (.ref f) args) R s := by
  obtain ⟨BG, DG, st, lv⟩ := ground_in B F N D hA hf hke
  have XH := XB.keeps fun b o e => F.keep b o (B.stays b o e)
  refine codeAny_call_def (fd := fnX name qual params body scope cl dV kV doc pm an cdv ct) (body := body) (binds := binds) hroom (XH _ _ ho) rfl (TB.nolimit.keeps fun b o e => F.keep b o (B.stays b o e)) (codeRec_of XH hcd) rfl (hbind XH) hcell hloc (fun h₁ hns hk₁ => ?_) hco hgen hk
  refine wpAny_mono (h _ s.heap.objs.size h₁ ⟨hns, fun b o e => hk₁ b o (of_hideAll _ e), Nat.le_of_eq (hideAll_size _ _)⟩
    (fun p hp => ⟨hk₁ _ _ (N p hp).1, Nat.ne_of_lt (Heap.lt_size (N p hp).1), hideAll_none _ (List.mem_map_of_mem hp)⟩) BG (XB.keeps BG.stays) (TB.keeps BG.stays)) (fun fl s' hl => ?_) fun e s' hl => hl.elim
  obtain ⟨L', m', news', h', tk', rfl, x1, x3, x4⟩ := hl
  exact k _ h' tk' news' x1 (fun b o e nm => x3.keep b o (hideAll_get _ e nm)) (fun p hp => (x4 p hp).1)
end
local macro_rules | `(tactic| walk_at "getMethod type:Exception") => `(tactic| (k_here; refine' method_type ?F ?X ?m (by decide +kernel) ?e ?h ?_; (case F => k_asm); (case X => k_asm); (case m => exact rfl); (case e => k_dflt k_is); (case h => k_handed)))
theorem kfilled4 : (PySem.Challenge.rw_pf0385_01, Lw.head.heap_1) = (PySem.Challenge.rw_pf0385_01, Lw.head.heap_1) := by k_fill; rfl
section
variable {w : World} {p : Program} {loose : List Str} {mean : ExcName → Option Value} {mg mb : Str → Option Value} {base h₀ : Heap} {A A₀ : Around} {outer : List Env} {L : Addr} {m : Str → Option Value} {news : List (Addr × Obj)} {env : Env} {s : Shared} {R : Result → Shared → Prop}
structure Own (K : Frag) (C N : Addr) (nm q : Str) (bs bm : List Value) (sn : List Str) (sub : List Value) (ab : Bool) (col : Option Bool) (dd : Option Addr) (k0 k1 k2 k3 k5 : Option Value) : Prop where
  obj : K.lookup C = some (excClassObj nm q C N bs bm true sn sub ab col dd k0 k1 k2 k3 k5 "Exception.__new__")
  hcB : (Value.ref C :: bm).contains (.type "Exception") = true
  hcA : (Value.ref C :: bm).contains (.type "AttributeError") = false
  hcN : (Value.ref C :: bm).contains (.type "NameError") = false
  base : bm.contains (.type "BaseException") = true
  init : findIn K (.ref C) "__init__" = some (some (.ref 135))
  fn : typeIn K (.ref 135) = some (.type "function")
  hob : (Value.ref C :: bm).contains (.type "object") = true
  hrf : ∀ e : Addr, refuseLoop (.ref e) "__setattr__" (Value.ref C :: bm) = pure ()
  hs : findIn K (.ref C) "__setattr__" = some (some (.builtin "object.__setattr__"))
  ht : takerIn K C (Str.ofString "message") = some none
variable {nm q : Str} {C N : Addr} {bs bm : List Value} {sn : List Str} {sub : List Value} {ab : Bool} {col : Option Bool} {dd : Option Addr} {k0 k1 k2 k3 k5 : Option Value}
theorem news_step {g h h' : Heap} {L' e : Addr} {m' : Str → Option Value} {o o' : Obj} (F' : Fr g L' h m') (N' : News g L' h [(e, o)]) (k : ∀ b x, b ≠ e → h.get? b = some x → h'.get? b = some x) (he : h'.get? e = some o') :
    Fr g L' h' m' ∧ News g L' h' [(e, o')] := by
  have ne := (N' _ (.head _)).2.1
  have ng := (N' _ (.head _)).2.2
  refine ⟨⟨?_, fun b x z => k b x (fun q => by subst q; exact absurd z (by simp only [] at ng; rw [ng]; exact fun z => nomatch z)) (F'.keep b x z), F'.above⟩, fun p hp => ?_⟩
  · obtain ⟨oL, es, ep, hL, h2, h3, h4⟩ := F'.ns
    exact ⟨oL, es, ep, k _ _ (Ne.symm ne) hL, h2, h3, h4⟩
  · cases List.mem_singleton.mp hp
    exact ⟨he, ne, ng⟩
theorem init_run (O : Own (Lw.head.heap_1 w.params) C N nm q bs bm sn sub ab col dd k0 k1 k2 k3 k5) {e t : Addr} {v : Value} (B : Below A₀ base outer h₀) (F : Fr h₀ L s.heap m) (N : News h₀ L s.heap [(e, exObj C t)]) (D : KtsDicts (frs outer) h₀) (XB : (Lw.head.heap_1 w.params).In base) (TB : Top p loose mean mg mb base) (hA : A.frames = some (env :: outer)) (hf : env.frame = some L) (hke : env.scope.kind = .function)
    (hroom : A.depth + 2 < recursionLimit)
    (k : ∀ h' tk' d t', (∀ b o, s.heap.get? b = some o → b ≠ e → h'.get? b = some o) → h'.get? e = some (exObjD C t' d) → R (.ok (.ret .none)) { s with heap := h', toks := tk' }) :
    codeAny (model PySem.Challenge.pw_pf0385_01 w) A (.call (.ref 135) ⟨[.ref e, v], []⟩) R s := by
  w_on
  k_dflt (refine' enter_keep (Post := fun r news' => r = .none ∧ ∃ t' d, news' = [(e, exObjD C t' d)]) B F N D XB TB hA hf hke ?ho ?hcd ?hroom ?hb ?hl ?k ?_ ?c1 ?c2 ?c3 ?c4)
  case ho => k_is
  case hcd => k_is
  case hroom => omega
  case hb => intro _; exact BindsTo.of_eq rfl
  case hl => exact locs rfl
  case c1 => decide
  case c2 => rfl
  case c3 => rfl
  case c4 => rfl
  case k =>
    intro r h' tk' news' hp h1 h2
    obtain ⟨rfl, t', d, rfl⟩ := hp
    exact k h' tk' d t' (fun b o e1 ne => h1 b o e1 (by simpa using ne)) (h2 _ (.head _))
  intro g L' h₁ F' N' B' X' T'
  try dsimp only
  try k_fold
  k_steps
  refine exc_init0 PySem.F.excBase_Exception O.hcB (F'.keep _ _ (X' _ _ O.obj)) (N' _ (.head _)).1 fun h₂ t₂ hk₂ he₂ => ?_
  obtain ⟨F₂, N₂⟩ := news_step F' N' hk₂ he₂
  clear F' N' 
  have F' := F₂
  have N' := N₂
  clear F₂ N₂
  k_steps
  refine exc_set (X'.keeps F'.keep) (N' _ (.head _)).1 (by unfold clsIn; rw [O.obj]) rfl rfl O.hob rfl (O.hrf _) O.hs O.ht fun h₃ d₃ tk₃ hk₃ he₃ => ?_
  obtain ⟨F₂, N₂⟩ := news_step F' N' hk₃ he₃
  clear F' N' 
  have F' := F₂
  have N' := N₂
  clear F₂ N₂
  k_steps
  exact ⟨_, _, _, _, _, rfl, ⟨rfl, _, _, rfl⟩, F', N'⟩
theorem own_raise (O : Own (Lw.head.heap_1 w.params) C N nm q bs bm sn sub ab col dd k0 k1 k2 k3 k5) {Q : Value → Shared → Prop} {E : Value → Shared → Prop} {v : Value} (B : Below A₀ base outer h₀) (F : Fr h₀ L s.heap m) (D : KtsDicts (frs outer) h₀) (XB : (Lw.head.heap_1 w.params).In base) (TB : Top p loose mean mg mb base) (hA : A.frames = some (env :: outer)) (hf : env.frame = some L) (hke : env.scope.kind = .function)
    (hroom : A.depth + 8 < recursionLimit)
    (hE : ∀ h' e t d tk', s.heap.get? e = none → (∀ b o, s.heap.get? b = some o → h'.get? b = some o) → h'.get? e = some (exObjD C t d) → Q (.ref e) { s with heap := h', toks := tk' }) :
    wpAny (model PySem.Challenge.pw_pf0385_01 w) A (call (.ref C) [v]) Q E s := by
  have XH := XB.keeps fun b o e => F.keep b o (B.stays b o e)
  have hC := XH _ _ O.obj
  obtain ⟨hp, gg, dr, tk, os⟩ := s
  refine exc_call PySem.F.excBase_Exception O.hcB O.hcA O.hcN XH O.init O.fn hC ?_ (by rw [sizeLine_eq]; simp)
  have kp : ∀ b o, hp.get? b = some o → ((hp.push { cls := .type "tuple", data := .seq [v].toArray }).push (exObj C hp.objs.size)).get? b = some o := fun b o e => Heap.get?_push_of_some _ (Heap.get?_push_of_some _ e)
  have hget : ((hp.push { cls := .type "tuple", data := .seq [v].toArray }).push (exObj C hp.objs.size)).get? (hp.objs.size + 1) = some (exObj C hp.objs.size) := by
    have := Heap.get?_push_size (hp.push { cls := .type "tuple", data := .seq [v].toArray }) (o := exObj C hp.objs.size) rfl
    rwa [Heap.size_push] at this
  have hn : hp.get? (hp.objs.size + 1) = none := Heap.get?_none_of_le (Nat.le_succ _)
  have nl : hp.objs.size + 1 ≠ L := by
    obtain ⟨oL, es, ep, hL, _⟩ := F.ns
    have := Heap.lt_size hL
    show hp.objs.size + 1 ≠ L
    exact fun z => absurd (z ▸ this : hp.objs.size + 1 < hp.objs.size) (by omega)
  have F₁ : Fr h₀ L ((hp.push { cls := .type "tuple", data := .seq [v].toArray }).push (exObj C hp.objs.size)) m := by
    obtain ⟨oL, es, ep, hL, h2, h3, h4⟩ := F.ns
    exact ⟨⟨oL, es, ep, kp _ _ hL, h2, h3, h4⟩, fun b o e => kp _ _ (F.keep b o e), F.above⟩
  have N₁ : News h₀ L ((hp.push { cls := .type "tuple", data := .seq [v].toArray }).push (exObj C hp.objs.size)) [(hp.objs.size + 1, exObj C hp.objs.size)] := fun p hp' => by
    cases List.mem_singleton.mp hp'
    refine ⟨hget, nl, ?_⟩
    cases q : h₀.get? (hp.objs.size + 1) with
    | none => rfl
    | some o => have := F.keep _ _ q; simp only [] at this; rw [hn] at this; cases this
  refine init_run (A := A.under _) O B F₁ N₁ D XB TB hA hf hke (by show A.depth + 1 + 2 < recursionLimit; omega) fun h' tk' d t' k1 k2 => ?_
  refine ⟨rfl, ?_⟩
  refine hE h' (hp.objs.size + 1) t' d tk' hn (fun b o e => k1 b o (kp _ _ e) fun z => ?_) k2
  subst z
  simp only [] at e
  rw [hn] at e
  cases e
theorem own_form : Own (Lw.head.heap_1 w.params) 151 150 (Str.ofString "FormError") (Str.ofString "FormError") [.ref 138] [.ref 138, .type "Exception", .type "BaseException", .type "object"] [] [] false none none (some (.ref 142)) none (some (.str (Str.ofString "FormError") 891)) (some (.str (Str.ofString "FormError") 899)) (some (.bool true)) where
  obj := by k_is
  hcB := by decide
  hcA := by decide
  hcN := by decide
  base := by decide
  init := by k_is
  fn := by k_is
  hob := by decide
  hrf := fun e => by kernel_rfl
  hs := by k_is
  ht := by k_is
theorem own_size : Own (Lw.head.heap_1 w.params) 163 162 (Str.ofString "SizeError") (Str.ofString "SizeError") [.ref 138] [.ref 138, .type "Exception", .type "BaseException", .type "object"] [] [] false none none (some (.ref 154)) none (some (.str (Str.ofString "SizeError") 907)) (some (.str (Str.ofString "SizeError") 915)) (some (.bool true)) where
  obj := by k_is
  hcB := by decide
  hcA := by decide
  hcN := by decide
  base := by decide
  init := by k_is
  fn := by k_is
  hob := by decide
  hrf := fun e => by kernel_rfl
  hs := by k_is
  ht := by k_is
end
end Lw
end
section
open PySem PySem.Spec PySem.W PySem.Calls PyProof.Rows
set_option maxRecDepth 100000
set_option maxHeartbeats 400000
set_option linter.unusedVariables false
set_option pp.maxSteps 3000
set_option pp.deepTerms false
namespace Lw
section
variable {w : World} {p : Program} {loose : List Str} {mean : ExcName → Option Value} {mg mb : Str → Option Value} {base g gk hs : Heap} {A A' A₀ : Around} {l : List Env} {L' : Addr} {m' : Str → Option Value} {news news' : List (Addr × Obj)} {env' : Env} {s s₀ : Shared} {PE : Value → Prop}
variable {nm q : Str} {C N : Addr} {bs bm : List Value} {sn : List Str} {sub : List Value} {ab : Bool} {col : Option Bool} {dd : Option Addr} {k0 k1 k2 k3 k5 : Option Value}
theorem KtsTurn.dicts {fs : List Addr} {g g' : Heap} (T : KtsTurn fs g g') (D : KtsDicts fs g) : KtsDicts fs g' := fun b hb => by
  obtain ⟨o, es, n, ho, hd⟩ := D b hb
  obtain ⟨sl, hsl⟩ := T.up ho
  exact ⟨_, es, n, hsl, hd⟩
def Raised (C : Addr) (E : Value → Shared → Prop) (v : Value) (s₃ : Shared) : Prop := ∃ e t d, v = .ref e ∧ s₃.heap.get? e = some (exObjD C t d) ∧ E (.ref e) s₃
theorem raise_walk (O : Own (Lw.head.heap_1 w.params) C N nm q bs bm sn sub ab col dd k0 k1 k2 k3 k5) {env : Env} {x : Str} {np cpos pos : Pos} {a : PySem.Expr} {rest : List PySem.Expr} {Q : Flow → Shared → Prop} {E : Value → Shared → Prop}
    (hh : A.handled = none)
    (h : wpAny (model PySem.Challenge.pw_pf0385_01 w) A (eval (.Name x np) env) (fun f s₁ => f = .ref C ∧ wpAny (model PySem.Challenge.pw_pf0385_01 w) A (spliced (backTo cpos (starEach (a :: rest) env)))
      (fun vs s₂ => (Lw.head.heap_1 w.params).In s₂.heap ∧ wpAny (model PySem.Challenge.pw_pf0385_01 w) A (call (.ref C) vs) (fun v s₃ => (Lw.head.heap_1 w.params).In s₃.heap ∧ Raised C E v s₃) E s₂) E s₁) E s)
    (he : starEach (a :: rest) env = (false, eval a env) :: starEach rest env := by rfl) (hplain : (backTo cpos (starEach (a :: rest) env)).any (·.1) = false := by rfl) :
    wpAny (model PySem.Challenge.pw_pf0385_01 w) A (exec (.Raise (some (.Call (.Name x np) (a :: rest) [] cpos)) none pos) env) Q E s := by
  refine raise_call (C := C) (nm := nm) (q := q) (N := N) (bs := bs) (bm := bm) (hdct := true) (sn := sn) (sub := sub) (ab := ab) (col := col) (dd := dd) (k0 := k0) (k1 := k1) (k2 := k2) (k3 := k3) (k5 := k5) (newId := "Exception.__new__") O.base hh hplain (wpAny_mono h (fun f s₁ h₁ => ⟨h₁.1, ?_⟩) fun _ _ x => x)
  obtain ⟨_, h₁⟩ := h₁
  rw [he] at h₁ ⊢
  refine evalArgs_plain (wpAny_mono h₁ (fun vs s₂ h₂ => ⟨rfl, h₂.1 _ _ O.obj, wpAny_mono h₂.2 (fun v s₃ h₃ => ?_) fun _ _ x => x⟩) fun _ _ x => x)
  obtain ⟨e, t, d, x1, x2, x3⟩ := h₃.2
  exact ⟨e, t, d, x1, h₃.1 _ _ O.obj, x2, x3⟩
theorem raise_end (O : Own (Lw.head.heap_1 w.params) C N nm q bs bm sn sub ab col dd k0 k1 k2 k3 k5) {v : Value} {E : Value → Shared → Prop}
    (B : Below A₀ base l gk) (XB : (Lw.head.heap_1 w.params).In base) (TB : Top p loose mean mg mb base) (F : Fr gk L' s.heap m') (N' : News gk L' s.heap news') (D : KtsDicts (frs l) gk) (AN : Anc s₀.heap g news) (TT : KtsTurn (frs l) g gk)
    (hE : ∀ e s', wpAny (model PySem.Challenge.pw_pf0385_01 w) A' (leaving env' (.ref e)) (fun _ s'' => EscC base l s₀ PE (.ref e) s'') (fun e' s'' => EscC base l s₀ PE e' s'') s' → E (.ref e) s')
    (hs : s = { s₀ with heap := s.heap, toks := s.toks }) (hsub : ∀ q ∈ news, q ∈ news') (hA : A.frames = some (env' :: l)) (hA' : A'.frames = some (env' :: l)) (hf : env'.frame = some L') (hke : env'.scope.kind = .function) (hroom : A.depth + 8 < recursionLimit) (hPE : PE (.ref C)) :
    wpAny (model PySem.Challenge.pw_pf0385_01 w) A (call (.ref C) [v]) (fun v s₃ => (Lw.head.heap_1 w.params).In s₃.heap ∧ Raised C E v s₃) E s := by
  refine own_raise O B F D XB TB hA hf hke hroom fun h' e t d tk' x1 x2 x3 => ⟨XB.keeps fun b o z => x2 _ _ (F.keep _ _ (B.stays _ _ z)), e, t, d, rfl, x3, hE _ _ ?_⟩
  refine leave_first B hf hke hA' AN TT F N' hsub x2 x1 x3 rfl rfl rfl rfl fun h'' R => ?_
  rw [hs]
  exact esc_c R hPE
end
section
variable {w : World} {p : Program} {loose : List Str} {mean : ExcName → Option Value} {mg mb : Str → Option Value} {base g gk : Heap} {A A₀ : Around} {l : List Env} {L' f : Addr} {m' : Str → Option Value} {news : List (Addr × Obj)} {s s₀ : Shared} {Q E : Value → Shared → Prop} {dn un' : Nat} {vs : List Value} {Post : Value → List (Addr × Obj) → Prop} {PE : Value → Prop}
theorem conT_step (Cn : ConT w base dn un' f vs news Post PE) {dp un : Nat} {gd : Option (List Code)} {cn : Str} {cs : Scope} {a : Addr} {ccd : Value} {cl : List (Str × Addr)} {prog : Program}
    (B : Below A₀ base l gk) (XB : (Lw.head.heap_1 w.params).In base) (TB : Top p loose mean mg mb base) (F : Fr gk L' s.heap m') (N : News gk L' s.heap news) (D : KtsDicts (frs l) gk) (TT : KtsTurn (frs l) g gk)
    (hp : prog = PySem.Challenge.pw_pf0385_01) (hA : A = At dp un gd (envX cn cs L' a ccd cl :: l)) (hk : cs.kind = .function) (hd : dp + dn < recursionLimit) (hu : un + un' < cLine)
    (hesc : ∀ e cls h' tk', PE cls → Flew base (envX cn cs L' a ccd cl :: l) e cls s.heap h' → E (.ref e) { s with heap := h', toks := tk' })
    (hret : ∀ r gk' h' tk' news', Fr gk' L' h' m' → News gk' L' h' news' → Below A₀ base l gk' → KtsDicts (frs l) gk' → KtsTurn (frs l) g gk' → (Lw.head.heap_1 w.params).In gk' → Top p loose mean mg mb gk' → Post r news' → Q r { s with heap := h', toks := tk' }) :
    wpAny (model prog w) A (call (.ref f) vs) Q E s :=
  conT_use Cn hp hA B F N D hk hd hu (fun r h₀' h' tk' news' x1 x2 x3 x4 x5 => hret r h₀' h' tk' news' x4 x5 x3 (KtsTurn.dicts x2 D) (TT.trans x2) (XB.keeps x3.stays) (TB.keeps x3.stays) x1) hesc
theorem con_none {P : Value → Shared → Prop} (h : ∀ c, ¬ PE c) : ∀ (e : Addr) cls h' (tk' : Nat), PE cls → Flew base l e cls s.heap h' → P (.ref e) { s with heap := h', toks := tk' } := fun _ _ _ _ x _ => (h _ x).elim
theorem con_pass {env' : Env} {A' : Around} {news' : List (Addr × Obj)} {PE' : Value → Prop} {news : List (Addr × Obj)} (F : Fr gk L' s.heap m') (N' : News gk L' s.heap news') (AN : Anc s₀.heap g news) (TT : KtsTurn (frs l) g gk)
    (hE : ∀ e s', wpAny (model PySem.Challenge.pw_pf0385_01 w) A' (leaving env' (.ref e)) (fun _ s'' => EscC base l s₀ PE' (.ref e) s'') (fun e' s'' => EscC base l s₀ PE' e' s'') s' → E (.ref e) s')
    (hs : s = { s₀ with heap := s.heap, toks := s.toks }) (hsub : ∀ q ∈ news, q ∈ news') (hA' : A'.frames = some (env' :: l)) (hf : env'.frame = some L') (hPE : ∀ c, PE c → PE' c) :
    ∀ (e : Addr) cls h' (tk' : Nat), PE cls → Flew base (env' :: l) e cls s.heap h' → E (.ref e) { s with heap := h', toks := tk' } := fun e cls h' tk' x R => hE _ _ <| by
  refine leave_next hf hA' AN TT F N' hsub R fun h'' R' => ?_
  rw [hs]
  exact esc_c R' (hPE _ x)
end
end Lw
end
section
open PySem PySem.Spec PySem.W PySem.Calls PyProof.Rows PyProof.Rows.LCg
set_option maxRecDepth 100000
set_option maxHeartbeats 400000
set_option linter.unusedVariables false
namespace Lw
section
variable {prog : Program} {w : World} {A : Around} {E : Value → Shared → Prop} {s : Shared} {h₀ : Heap} {L : Addr} {m : Str → Option Value} {env : Env}
def SrcD (prog : Program) (w : World) (A : Around) (h₀ : Heap) (L : Addr) (m : Str → Option Value) (env : Env) (elt : PySem.Expr) (x : Str) (scope : Scope) (cl : List (Str × Addr)) (Fin : Shared → List Value → List (Addr × Obj) → Prop) (xv : Value) (s₁ : Shared) : Prop :=
  ∃ r a b c t u v n news, xv = .ref r ∧ A.handled = none ∧ Fr h₀ L s₁.heap m ∧ News h₀ L s₁.heap news ∧ IsRange s₁.heap r a b c t u v ∧ Builtin.Range.small a b c = true ∧ Builtin.Range.rangeSize a b c = ((n : Nat) : Int) ∧ n ≤ sizeLine ∧
    ∀ s₂ : Shared, (∃ h, s₂ = { s₁ with heap := h }) → CompRest prog w A h₀ L m env elt x scope cl s₂ (fun _ => True) (fun i v => ∃ t, v = .int (a + (i : Int) * c) t) (Fin s₂) n 0 [] news
theorem SrcD.range {elt : PySem.Expr} {x : Str} {scope : Scope} {cl : List (Str × Addr)} {Fin : Shared → List Value → List (Addr × Obj) → Prop} {r : Addr} {a b c : Int} {t u v : Tok} {n : Nat} {news : List (Addr × Obj)} {s₁ : Shared}
    (hh : A.handled = none) (F : Fr h₀ L s₁.heap m) (N : News h₀ L s₁.heap news) (hr : IsRange s₁.heap r a b c t u v) (hsm : Builtin.Range.small a b c = true) (hn : Builtin.Range.rangeSize a b c = ((n : Nat) : Int)) (hsz : n ≤ sizeLine)
    (h : ∀ g, CompRest prog w A h₀ L m env elt x scope cl { s₁ with heap := g } (fun _ => True) (fun i v => ∃ t, v = .int (a + (i : Int) * c) t) (Fin { s₁ with heap := g }) n 0 [] news) :
    SrcD prog w A h₀ L m env elt x scope cl Fin (.ref r) s₁ := ⟨r, a, b, c, t, u, v, n, news, rfl, hh, F, N, hr, hsm, hn, hsz, fun _ ⟨g, e⟩ => e ▸ h g⟩
theorem range_stD {I : Addr} {a c : Int} {n : Nat} : ∀ i (h h' : Heap) (o : Obj) (nw : List (Addr × Obj)), IsRangeIter h I (a + (i : Nat) * c) ((n : Int) - (i : Nat)) c → h.get? I = some o → h'.get? I = some o → (∀ b o, h₀.get? b = some o → h'.get? b = some o) → News h₀ L h' nw → True → IsRangeIter h' I (a + (i : Nat) * c) ((n : Int) - (i : Nat)) c :=
  fun i h h' o nw st e e' _ _ _ => by
    have st' : h.get? I = some _ := st
    show h'.get? I = some _
    rw [e', ← e]; exact st'
theorem ListComp_D {elt iter : PySem.Expr} {x : Str} {px : Pos} {scope : Scope} {cl : List (Str × Addr)} {pos : Pos} {Q : Value → Shared → Prop} (F₀ : Fr h₀ L s.heap m)
    (hclos : closureFor scope env = pure cl) (hcell : ∀ y ∈ scope.names, y.2 ≠ .cell) (hkind : scope.kind = .function)
    (hnames : ∀ y ∈ scope.names, y.2 = .local → scope.names.lookup y.1 = some .local) (hx : scope.names.lookup x = some .local)
    (h : wpAny (model prog w) A (eval iter env) (SrcD prog w A h₀ L m env elt x scope cl (fun s₂ => FinE h₀ L m s₂ Q)) E s)
    (hs : ∀ x, foldedSetIterable iter env x = pure x := by intro _; rfl) :
    wpAny (model prog w) A (eval (.ListComp elt [⟨.Name x px, iter, [], 0⟩] scope pos) env) Q E s := by
  rw [eval_ListComp]
  refine wpAny_comprehension_free (use := none) rfl hs hclos hkind hnames (wpAny_mono h (fun xv s₁ h₁ => ?_) fun _ _ e => e)
  rcases h₁ with ⟨r, a, b, c, t, u, v, n, news, rfl, hh, F, N, hr, hsm, hn, hsz, R⟩
  refine wpAny_pyIter_range hr hsm ?_
  refine block_U (Walks.range hh _ a c n) hsz (fun i h st => ⟨_, st⟩) range_stD hcell hkind hx (by show IsRangeIter _ _ _ _ _; rw [hn]; simpa using Heap.get?_push_size _ rfl) (fun b hb => ?_)
    (F.keeps fun _ _ e => Heap.get?_push_of_some _ e) (N.grown fun _ _ e => Heap.get?_push_of_some _ e) (Nat.ne_of_lt F.ns.lt) (next_is_new F) (fun p hp => Nat.ne_of_lt (Heap.lt_size (N p hp).1)) trivial (R _ ⟨_, rfl⟩) ?_
  · rw [List.mem_singleton.mp hb]
    show s₁.heap.objs.size < (s₁.heap.push _).objs.size
    rw [Heap.size_push]; exact Nat.lt_succ_self _
  · intro D C h tk m' ys news' F' N' o1 hn hC₀ hD₀ hCL hDL hCD offC fin
    refine ⟨m', hn, fun h'' hs'' => fin D h'' tk (F'.change hs'' hCL hC₀) (fun p hp => ?_) o1⟩
    refine ⟨hs''.extBut _ _ ?_ (N' p hp).1, (N' p hp).2⟩
    rcases List.mem_cons.mp hp with rfl | hp
    · exact Ne.symm hCD
    · exact offC p hp
end
end Lw
end
section
open PySem PySem.Spec PySem.W PySem.Calls PyProof.Rows
namespace Lw
structure Stop (P : Prop) : Prop where
  h : P
theorem stop_ {P : Prop} (h : Stop P) : P := h.h
theorem stop_lit {M : Model} {A : Around} {a : Nat} {vs : List Value} {Q : Value → Shared → Prop} {E : Value → Shared → Prop} {s : Shared} (_h : Nat.blt a 1000 = true) (hs : Stop (wpAny M A (call (.ref a) vs) Q E s)) : wpAny M A (call (.ref a) vs) Q E s := hs.h
def OQ {α : Type} (Q0 Q1 : α → Shared → Prop) : Prop := ∀ x s, Q0 x s → Q1 x s
theorem OQ.use {α : Type} {Q0 Q1 : α → Shared → Prop} {x : α} {s : Shared} (h : OQ Q0 Q1) (q : Q0 x s) : Q1 x s := h x s q
def EQ9 (E1 E0 : Value → Shared → Prop) : Prop := E1 = E0
theorem EQ9.pass {E1 E0 : Value → Shared → Prop} (h : EQ9 E1 E0) : ∀ (e : Addr) s', E0 (.ref e) s' → E1 (.ref e) s' := by
  have e : E1 = E0 := h
  subst e
  exact fun _ _ x => x
theorem EQ9.own {E1 E0 : Value → Shared → Prop} {M : Model} {A : Around} {env : Env} (h : EQ9 E1 E0) (x : PassesOwn M A env E0) : PassesOwn M A env E1 := by
  have e : E1 = E0 := h
  subst e
  exact x
theorem opq {α : Type} {M : Model} {A : Around} {c : Sem α} {Q : α → Shared → Prop} {E : Value → Shared → Prop} {s : Shared} (h : ∀ Q1 E1, OQ Q Q1 → EQ9 E1 E → wpAny M A c Q1 E1 s) : wpAny M A c Q E s := h Q E (fun _ _ x => x) rfl
theorem opk {α : Type} {M : Model} {A : Around} {c : Sem α} {Q : α → Shared → Prop} {E : Value → Shared → Prop} {s : Shared} (h : ∀ K, OQ Q K → wpAny M A c K E s) : wpAny M A c Q E s := h Q (fun _ _ x => x)
theorem dstep {dp a b R : Nat} (h : dp + b < R) (e : Nat.ble a b = true) : dp + a < R := Nat.lt_of_le_of_lt (Nat.add_le_add_left (Nat.le_of_ble_eq_true e) dp) h
theorem dstep1 {dp a b R : Nat} (h : dp + b < R) (e : Nat.ble (a + 1) b = true) : dp + 1 + a < R := by
  have := Nat.le_of_ble_eq_true e
  omega
section
variable {w : World} {p : Program} {loose : List Str} {mean : ExcName → Option Value} {mg mb : Str → Option Value} {base g gk hs : Heap} {A A' A₀ : Around} {l : List Env} {L' : Addr} {m' : Str → Option Value} {news news' : List (Addr × Obj)} {env' : Env} {s s₀ : Shared} {PE : Value → Prop}
variable {nm q : Str} {C N : Addr} {bs bm : List Value} {sn : List Str} {sub : List Value} {ab : Bool} {col : Option Bool} {dd : Option Addr} {k0 k1 k2 k3 k5 : Option Value}
theorem raise_end2 (O : Own (Lw.head.heap_1 w.params) C N nm q bs bm sn sub ab col dd k0 k1 k2 k3 k5) {v : Value} {E : Value → Shared → Prop}
    (hE : ∀ e s', wpAny (model PySem.Challenge.pw_pf0385_01 w) A' (leaving env' (.ref e)) (fun _ s'' => EscC base l s₀ PE (.ref e) s'') (fun e' s'' => EscC base l s₀ PE e' s'') s' → E (.ref e) s')
    (AN : Anc s₀.heap g news) (B : Below A₀ base l gk) (XB : (Lw.head.heap_1 w.params).In base) (TB : Top p loose mean mg mb base) (F : Fr gk L' s.heap m') (N' : News gk L' s.heap news') (D : KtsDicts (frs l) gk) (TT : KtsTurn (frs l) g gk)
    (hs : s = { s₀ with heap := s.heap, toks := s.toks }) (hsub : ∀ q ∈ news, q ∈ news') (hA : A.frames = some (env' :: l)) (hA' : A'.frames = some (env' :: l)) (hf : env'.frame = some L') (hke : env'.scope.kind = .function) (hroom : A.depth + 8 < recursionLimit) (hPE : PE (.ref C)) :
    wpAny (model PySem.Challenge.pw_pf0385_01 w) A (call (.ref C) [v]) (fun v s₃ => (Lw.head.heap_1 w.params).In s₃.heap ∧ Raised C E v s₃) E s :=
  raise_end O B XB TB F N' D AN TT hE hs hsub hA hA' hf hke hroom hPE
theorem con_pass2 {env' : Env} {E : Value → Shared → Prop} {A' : Around} {news' : List (Addr × Obj)} {PE' : Value → Prop} {news : List (Addr × Obj)}
    (hE : ∀ e s', wpAny (model PySem.Challenge.pw_pf0385_01 w) A' (leaving env' (.ref e)) (fun _ s'' => EscC base l s₀ PE' (.ref e) s'') (fun e' s'' => EscC base l s₀ PE' e' s'') s' → E (.ref e) s')
    (AN : Anc s₀.heap g news) (F : Fr gk L' s.heap m') (N' : News gk L' s.heap news') (TT : KtsTurn (frs l) g gk)
    (hs : s = { s₀ with heap := s.heap, toks := s.toks }) (hsub : ∀ q ∈ news, q ∈ news') (hA' : A'.frames = some (env' :: l)) (hf : env'.frame = some L') (hPE : ∀ c, PE c → PE' c) :
    ∀ (e : Addr) cls h' (tk' : Nat), PE cls → Flew base (env' :: l) e cls s.heap h' → E (.ref e) { s with heap := h', toks := tk' } :=
  con_pass F N' AN TT hE hs hsub hA' hf hPE
end
end Lw
end
section
open PySem PySem.Spec PySem.W PySem.Calls PyProof.Rows
set_option maxRecDepth 100000
set_option maxHeartbeats 8000000
set_option linter.unusedVariables false
namespace Lw
def EndS (g : Heap) (s : Shared) (Post : Value → List (Addr × Obj) → Prop) (v : Value) (s' : Shared) : Prop :=
  ∃ L' m' news' h' tk', s' = { s with heap := h', toks := tk' } ∧ Post v news' ∧ Fr g L' h' m' ∧ News g L' h' news'
def Con (w : World) (base : Heap) (dn un' : Nat) (f : Addr) (vs : List Value) (news : List (Addr × Obj)) (Post : Value → List (Addr × Obj) → Prop) (PE : Value → Prop) : Prop :=
  ∀ (dp un : Nat) (gd : Option (List Code)) (cn : Str) (cs : Scope) (a : Addr) (ccd : Value) (cl : List (Str × Addr)) (outer : List Env) (A₀ : Around) (h₀ : Heap) (L : Addr) (m : Str → Option Value) (s : Shared) (Q E : Value → Shared → Prop),
    Below A₀ base outer h₀ → Fr h₀ L s.heap m → News h₀ L s.heap news → KtsDicts (frs outer) h₀ → cs.kind = .function → dp + dn < recursionLimit → un + un' < cLine →
    (∀ r h' tk' news', Post r news' → Fr h₀ L h' m → News h₀ L h' news' → Q r { s with heap := h', toks := tk' }) →
    (∀ e cls h' tk', PE cls → Flew base (envX cn cs L a ccd cl :: outer) e cls s.heap h' → E (.ref e) { s with heap := h', toks := tk' }) →
    wpAny (model PySem.Challenge.pw_pf0385_01 w) (At dp un gd (envX cn cs L a ccd cl :: outer)) (call (.ref f) vs) Q E s
theorem keep_back {h₀ hs h' : Heap} {L L' : Addr} {m m' : Str → Option Value} {news news' : List (Addr × Obj)} (F : Fr h₀ L hs m) (N : News h₀ L hs news) (F' : Fr (hideAll hs (news.map (·.1))) L' h' m') (N' : News (hideAll hs (news.map (·.1))) L' h' news') :
    Fr h₀ L h' m ∧ News h₀ L h' news' := by
  have nm : ∀ b o, h₀.get? b = some o → b ∉ news.map (·.1) := fun b o e q => by
    obtain ⟨p, hp, rfl⟩ := List.mem_map.mp q
    rw [(N p hp).2.2] at e; cases e
  have st : ∀ b o, h₀.get? b = some o → (hideAll hs (news.map (·.1))).get? b = some o := fun b o e => hideAll_get _ (F.keep b o e) (nm b o e)
  obtain ⟨oL, es, ep, hL, hLd, hLk, hLf⟩ := F.ns
  have nL : L ∉ news.map (·.1) := fun q => by
    obtain ⟨p, hp, e⟩ := List.mem_map.mp q
    exact (N p hp).2.1 e
  have hLg := hideAll_get (news.map (·.1)) hL nL
  refine ⟨⟨⟨oL, es, ep, F'.keep _ _ hLg, hLd, hLk, hLf⟩, fun b o e => F'.keep _ _ (st b o e), F.above⟩, fun p hp => ⟨(N' p hp).1, fun q => ?_, ?_⟩⟩
  · have := (N' p hp).2.2
    rw [q, hLg] at this
    cases this
  · cases q : h₀.get? p.1 with
    | none => rfl
    | some o =>
      have := (N' p hp).2.2
      rw [st _ _ q] at this
      cases this
section
variable {prog : Program} {w : World} {p : Program} {loose : List Str} {mean : ExcName → Option Value} {mg mb : Str → Option Value} {base : Heap} {dn un' : Nat} {f : Addr} {vs : List Value} {news : List (Addr × Obj)} {Post : Value → List (Addr × Obj) → Prop} {PE : Value → Prop}
variable {A A₀ : Around} {h₀ : Heap} {outer : List Env} {L : Addr} {m : Str → Option Value} {env : Env} {s : Shared} {R : Result → Shared → Prop} {K : Frag}
theorem toEndC {fs : List Addr} {g : Heap} {v : Value} {s' : Shared} (x : EndS g s Post v s') : EndC fs g s Post v s' := by
  obtain ⟨L', m', news', h', tk', e, x1, x2, x3⟩ := x
  exact ⟨g, L', m', news', h', tk', e, x1, .refl, x2, x3⟩
def BackS (base : Heap) (outer : List Env) (env : Env) (h₀ : Heap) (L : Addr) (m : Str → Option Value) (s : Shared) (Post : Value → List (Addr × Obj) → Prop) (PE : Value → Prop) (R : Result → Shared → Prop) : Prop :=
  (∀ r h' tk' news', Post r news' → Fr h₀ L h' m → News h₀ L h' news' → R (.ok (.ret r)) { s with heap := h', toks := tk' }) ∧
  (∀ e cls h' tk', PE cls → Flew base (env :: outer) e cls s.heap h' → R (.error (.ref e)) { s with heap := h', toks := tk' })
theorem enterS_def {name qual : Str} {params : Arguments} {body : List Stmt} {scope : Scope} {cl : List (Str × Addr)} {dV kV doc pm cdv ct oc : Value} {an od : Option Addr} {osl : Array (Option Value)} {f : Addr} {args : Args} {binds : List (Str × Value)}
    (B : Below A₀ base outer h₀) (F : Fr h₀ L s.heap m) (N : News h₀ L s.heap news) (D : KtsDicts (frs outer) h₀) (XB : K.In base) (TB : Top p loose mean mg mb base) (hA : A.frames = some (env :: outer)) (hf : env.frame = some L) (hke : env.scope.kind = .function)
    (ho : K.lookup f = some ⟨oc, od, .func (fnX name qual params body scope cl dV kV doc pm an cdv ct), osl⟩) (hcd : codeIn K cdv qual = true) (hroom : A.depth < recursionLimit)
    (hbind : K.In s.heap → BindsTo s (fnX name qual params body scope cl dV kV doc pm an cdv ct) args binds) (hloc : ∀ y ∈ binds, scope.names.lookup y.1 = some .local)
    (k : BackS base outer env h₀ L m s Post PE R)
    (h : ∀ g L' h₁, Anc s.heap g news → Fr g L' h₁ (fun y => binds.reverse.lookup y) → News g L' h₁ news → (∀ p ∈ news, p.1 < L') → Below A base (env :: outer) g → KtsDicts (frs (env :: outer)) g → K.In g → Top p loose mean mg mb g →
      wpAny (model prog w) (A.deeper (envX qual scope L' f cdv cl)) (execs body (envX qual scope L' f cdv cl))
        (fun fl s' => EndS g s Post (match fl with | .ret v => v | _ => .none) s')
        (fun e s' => wpAny (model prog w) (A.deeper (envX qual scope L' f cdv cl)) (leaving (envX qual scope L' f cdv cl) e) (fun _ s'' => EscC base (env :: outer) s PE e s'') (fun e' s'' => EscC base (env :: outer) s PE e' s'') s')
        { s with heap := h₁, toks := s.toks + binds.length })
    (hcell : ∀ x ∈ scope.names, x.2 ≠ .cell) (hco : scope.isCoroutine = false := by rfl) (hgen : scope.isGenerator = false := by rfl) (hk : scope.kind = .function := by rfl) : codeAny (model prog w) A (.call (.ref f) args) R s := by
  obtain ⟨BG, DG, st, lv⟩ := ground_in B F N D hA hf hke
  have XH := XB.keeps fun b o e => F.keep b o (B.stays b o e)
  refine codeAny_call_def (fd := fnX name qual params body scope cl dV kV doc pm an cdv ct) (body := body) (binds := binds) hroom (XH _ _ ho) rfl (TB.nolimit.keeps fun b o e => F.keep b o (B.stays b o e)) (codeRec_of XH hcd) rfl (hbind XH) hcell hloc (fun h₁ hns hk₁ => ?_) hco hgen hk
  refine wpAny_mono (h _ s.heap.objs.size h₁ (anc_of N) ⟨hns, fun b o e => hk₁ b o (of_hideAll _ e), Nat.le_of_eq (hideAll_size _ _)⟩
    (fun p hp => ⟨hk₁ _ _ (N p hp).1, Nat.ne_of_lt (Heap.lt_size (N p hp).1), hideAll_none _ (List.mem_map_of_mem hp)⟩) (fun p hp => Heap.lt_size (N p hp).1) BG DG (XB.keeps BG.stays) (TB.keeps BG.stays)) (fun fl s' hl => ?_) fun e s' hl => ?_
  · obtain ⟨L', m', news', h', tk', rfl, x1, x3, x4⟩ := hl
    obtain ⟨y1, y2⟩ := keep_back F N x3 x4
    exact k.1 _ h' tk' news' x1 y1 y2
  · refine wpAny_mono hl (fun _ _ x => ?_) fun _ _ x => ?_ <;>
    · obtain ⟨e, cls, h', tk', rfl, rfl, x1, x2⟩ := x
      exact k.2 e cls h' tk' x1 x2
theorem enterS_cells {name qual : Str} {params : Arguments} {body : List Stmt} {scope : Scope} {dV kV doc pm cdv ct oc : Value} {an od : Option Addr} {osl : Array (Option Value)} {f : Addr} {args : Args} {binds : List (Str × Value)}
    (B : Below A₀ base outer h₀) (F : Fr h₀ L s.heap m) (N : News h₀ L s.heap news) (D : KtsDicts (frs outer) h₀) (XB : K.In base) (TB : Top p loose mean mg mb base) (hA : A.frames = some (env :: outer)) (hf : env.frame = some L) (hke : env.scope.kind = .function)
    (ho : K.lookup f = some ⟨oc, od, .func (fnX name qual params body scope [] dV kV doc pm an cdv ct), osl⟩) (hcd : codeIn K cdv qual = true) (hroom : A.depth < recursionLimit)
    (hbind : K.In s.heap → BindsTo s (fnX name qual params body scope [] dV kV doc pm an cdv ct) args binds) (hkind : (binds.all fun y => scope.names.lookup y.1 == some .local || scope.names.lookup y.1 == some .cell) = true)
    (hnd : ((cellsFrom 0 scope.names []).map (·.1)).Nodup)
    (k : BackS base outer env h₀ L m s Post PE R)
    (h : ∀ g L' h₁ tk cells, Anc s.heap g news → Fr g L' h₁ (bindL (envOfC qual scope L' f cdv).kindOf binds fun _ => none) → News g L' h₁ (cells ++ news) → CellsAre (bindC (envOfC qual scope L' f cdv).kindOf binds fun _ => none) (cellsFrom (L' + 1) scope.names []) cells → (∀ p ∈ news, p.1 < L') →
      Below A base (env :: outer) g → KtsDicts (frs (env :: outer)) g → K.In g → Top p loose mean mg mb g →
      wpAny (model prog w) (A.deeper (envOfC qual scope L' f cdv)) (execs body (envOfC qual scope L' f cdv))
        (fun fl s' => EndS g s Post (match fl with | .ret v => v | _ => .none) s')
        (fun e s' => wpAny (model prog w) (A.deeper (envOfC qual scope L' f cdv)) (leaving (envOfC qual scope L' f cdv) e) (fun _ s'' => EscC base (env :: outer) s PE e s'') (fun e' s'' => EscC base (env :: outer) s PE e' s'') s')
        { s with heap := h₁, toks := tk })
    (hco : scope.isCoroutine = false := by rfl) (hgen : scope.isGenerator = false := by rfl) (hk : scope.kind = .function := by rfl) : codeAny (model prog w) A (.call (.ref f) args) R s := by
  obtain ⟨BG, DG, st, lv⟩ := ground_in B F N D hA hf hke
  have XH := XB.keeps fun b o e => F.keep b o (B.stays b o e)
  have LH := TB.nolimit.keeps fun b o e => F.keep b o (B.stays b o e)
  refine codeAny_call_function hroom (XH _ _ ho) rfl hco hgen rfl (codeRec_of XH hcd) (hbind XH _ _ _ _ ?_)
  refine wpAny_newFunctionEnv_cells hk (kindsX hkind _) fun env' he s' x => ?_
  subst he
  refine ⟨LH.keeps x.toInCall.keep, codeAny_func ?_⟩
  obtain ⟨h₁, tk, rfl, _⟩ := x.done
  have hk₁ := x.toInCall.keep
  obtain ⟨cells, NC, Y⟩ := Cl.news (h₀ := s.heap) (Nat.le_refl _) fun n c hm => ⟨x.cell n c (lookup_of_mem_nodup (cellsFrom_names scope.names 0 (s.heap.objs.size + 1) [] [] rfl ▸ hnd) hm), x.above n c hm⟩
  refine wpAny_mono (h _ s.heap.objs.size h₁ tk cells (anc_of N) ⟨x.toInCall.ns, fun b o e => hk₁ b o (of_hideAll _ e), Nat.le_of_eq (hideAll_size _ _)⟩ (fun p hp => ?_) Y (fun p hp => Heap.lt_size (N p hp).1) BG DG (XB.keeps BG.stays) (TB.keeps BG.stays)) (fun fl s' hl => ?_) fun e s' hl => ?_
  · rcases List.mem_append.mp hp with hp | hp
    · refine ⟨(NC p hp).1, (NC p hp).2.1, ?_⟩
      cases q : (hideAll s.heap (news.map (·.1))).get? p.1 with
      | none => rfl
      | some o => have := of_hideAll _ q; rw [(NC p hp).2.2] at this; cases this
    · exact ⟨hk₁ _ _ (N p hp).1, Nat.ne_of_lt (Heap.lt_size (N p hp).1), hideAll_none _ (List.mem_map_of_mem hp)⟩
  · obtain ⟨L', m', news', h', tk', rfl, x1, x3, x4⟩ := hl
    obtain ⟨y1, y2⟩ := keep_back F N x3 x4
    exact k.1 _ h' tk' news' x1 y1 y2
  · refine wpAny_mono hl (fun _ _ x => ?_) fun _ _ x => ?_ <;>
    · obtain ⟨e, cls, h', tk', rfl, rfl, x1, x2⟩ := x
      exact k.2 e cls h' tk' x1 x2
theorem con_def {name qual : Str} {params : Arguments} {body : List Stmt} {scope : Scope} {cl : List (Str × Addr)} {dV kV doc pm cdv ct oc : Value} {an od : Option Addr} {osl : Array (Option Value)} {binds : List (Str × Value)}
    (XB : (Lw.head.heap_1 w.params).In base) (TB : Top p loose mean mg mb base)
    (ho : (Lw.head.heap_1 w.params).lookup f = some ⟨oc, od, .func (fnX name qual params body scope cl dV kV doc pm an cdv ct), osl⟩) (hcd : codeIn (Lw.head.heap_1 w.params) cdv qual = true)
    (hbind : ∀ s : Shared, (Lw.head.heap_1 w.params).In s.heap → BindsTo s (fnX name qual params body scope cl dV kV doc pm an cdv ct) ⟨vs, []⟩ binds) (hloc : ∀ y ∈ binds, scope.names.lookup y.1 = some .local) (hdn : 1 ≤ dn)
    (h : ∀ (dp un : Nat) (gd : Option (List Code)) (l : List Env) (s : Shared) (g : Heap) (L' : Addr) (h₁ : Heap), dp + dn < recursionLimit → un + un' < cLine → Anc s.heap g news → Fr g L' h₁ (fun y => binds.reverse.lookup y) → News g L' h₁ news → (∀ p ∈ news, p.1 < L') → Below (At dp un gd l) base l g →
      KtsDicts (frs l) g → (Lw.head.heap_1 w.params).In g → Top p loose mean mg mb g → KtsTurn (frs l) g g →
      wpAny (model PySem.Challenge.pw_pf0385_01 w) ((At dp un gd l).deeper (envX qual scope L' f cdv cl)) (execs body (envX qual scope L' f cdv cl))
        (fun fl s' => EndS g s Post (match fl with | .ret v => v | _ => .none) s')
        (fun e s' => wpAny (model PySem.Challenge.pw_pf0385_01 w) ((At dp un gd l).deeper (envX qual scope L' f cdv cl)) (leaving (envX qual scope L' f cdv cl) e) (fun _ s'' => EscC base l s PE e s'') (fun e' s'' => EscC base l s PE e' s'') s')
        { s with heap := h₁, toks := s.toks + binds.length })
    (hcell : ∀ x ∈ scope.names, x.2 ≠ .cell) (hco : scope.isCoroutine = false) (hgen : scope.isGenerator = false) (hk : scope.kind = .function) : Con w base dn un' f vs news Post PE := by
  intro dp un gd cn cs a ccd cl₀ outer A₀ h₀ L m s Q E B F N D hcs hdp hun hret hesc
  refine wpAny_call ?_
  exact enterS_def (A := At dp un gd (envX cn cs L a ccd cl₀ :: outer)) (env := envX cn cs L a ccd cl₀) B F N D XB TB rfl rfl hcs ho hcd (by show dp < recursionLimit; omega) (hbind s) hloc
    ⟨fun r h' tk' news' x1 x2 x3 => hret r h' tk' news' x1 x2 x3, fun e cls h' tk' x1 x2 => hesc e cls h' tk' x1 x2⟩
    (fun g L' h₁ AN F' N' l1 BG DG XG TG => h dp un gd _ s g L' h₁ hdp hun AN F' N' l1 BG DG XG TG .refl) hcell hco hgen hk
theorem con_defC {name qual : Str} {params : Arguments} {body : List Stmt} {scope : Scope} {dV kV doc pm cdv ct oc : Value} {an od : Option Addr} {osl : Array (Option Value)} {binds : List (Str × Value)}
    (XB : (Lw.head.heap_1 w.params).In base) (TB : Top p loose mean mg mb base)
    (ho : (Lw.head.heap_1 w.params).lookup f = some ⟨oc, od, .func (fnX name qual params body scope [] dV kV doc pm an cdv ct), osl⟩) (hcd : codeIn (Lw.head.heap_1 w.params) cdv qual = true)
    (hbind : ∀ s : Shared, (Lw.head.heap_1 w.params).In s.heap → BindsTo s (fnX name qual params body scope [] dV kV doc pm an cdv ct) ⟨vs, []⟩ binds)
    (hkind : (binds.all fun y => scope.names.lookup y.1 == some .local || scope.names.lookup y.1 == some .cell) = true) (hnd : ((cellsFrom 0 scope.names []).map (·.1)).Nodup) (hdn : 1 ≤ dn)
    (h : ∀ (dp un : Nat) (gd : Option (List Code)) (l : List Env) (s : Shared) (g : Heap) (L' : Addr) (h₁ : Heap) (tk : Nat) (cells : List (Addr × Obj)), dp + dn < recursionLimit → un + un' < cLine → Anc s.heap g news →
      Fr g L' h₁ (bindL (envOfC qual scope L' f cdv).kindOf binds fun _ => none) → News g L' h₁ (cells ++ news) → CellsAre (bindC (envOfC qual scope L' f cdv).kindOf binds fun _ => none) (cellsFrom (L' + 1) scope.names []) cells → (∀ p ∈ news, p.1 < L') →
      Below (At dp un gd l) base l g → KtsDicts (frs l) g → (Lw.head.heap_1 w.params).In g → Top p loose mean mg mb g → KtsTurn (frs l) g g →
      wpAny (model PySem.Challenge.pw_pf0385_01 w) ((At dp un gd l).deeper (envOfC qual scope L' f cdv)) (execs body (envOfC qual scope L' f cdv))
        (fun fl s' => EndS g s Post (match fl with | .ret v => v | _ => .none) s')
        (fun e s' => wpAny (model PySem.Challenge.pw_pf0385_01 w) ((At dp un gd l).deeper (envOfC qual scope L' f cdv)) (leaving (envOfC qual scope L' f cdv) e) (fun _ s'' => EscC base l s PE e s'') (fun e' s'' => EscC base l s PE e' s'') s')
        { s with heap := h₁, toks := tk })
    (hco : scope.isCoroutine = false) (hgen : scope.isGenerator = false) (hk : scope.kind = .function) : Con w base dn un' f vs news Post PE := by
  intro dp un gd cn cs a ccd cl₀ outer A₀ h₀ L m s Q E B F N D hcs hdp hun hret hesc
  refine wpAny_call ?_
  exact enterS_cells (A := At dp un gd (envX cn cs L a ccd cl₀ :: outer)) (env := envX cn cs L a ccd cl₀) B F N D XB TB rfl rfl hcs ho hcd (by show dp < recursionLimit; omega) (hbind s) hkind hnd
    ⟨fun r h' tk' news' x1 x2 x3 => hret r h' tk' news' x1 x2 x3, fun e cls h' tk' x1 x2 => hesc e cls h' tk' x1 x2⟩
    (fun g L' h₁ tk cells AN F' N' Y l1 BG DG XG TG => h dp un gd _ s g L' h₁ tk cells hdp hun AN F' N' Y l1 BG DG XG TG .refl) hco hgen hk
theorem end_c {fs : List Addr} {g g' h' : Heap} {v : Value} {L' : Addr} {m' : Str → Option Value} {news' : List (Addr × Obj)} {tk' : Nat} (F : Fr g L' h' m') (N : News g L' h' news') (_TT : KtsTurn fs g g') (x : Post v news') : EndS g s Post v { s with heap := h', toks := tk' } :=
  ⟨L', m', news', h', tk', rfl, x, F, N⟩
theorem con_toT (C : Con w base dn un' f vs news Post PE) : ConT w base dn un' f vs news Post PE := fun dp un gd cn cs a ccd cl outer A₀ h₀ L m s Q E B F N D hcs hdp hun hret hesc =>
  C dp un gd cn cs a ccd cl outer A₀ h₀ L m s Q E B F N D hcs hdp hun (fun r h' tk' news' x1 x2 x3 => hret r h₀ h' tk' news' x1 .refl B x2 x3) hesc
end
section
variable {w : World} {p : Program} {loose : List Str} {mean : ExcName → Option Value} {mg mb : Str → Option Value} {base gk : Heap} {A A₀ : Around} {l : List Env} {L' f : Addr} {m' : Str → Option Value} {news : List (Addr × Obj)} {s : Shared} {Q E : Value → Shared → Prop} {dn un' : Nat} {vs : List Value} {Post : Value → List (Addr × Obj) → Prop} {PE : Value → Prop}
theorem con_step (Cn : Con w base dn un' f vs news Post PE) {dp un : Nat} {gd : Option (List Code)} {cn : Str} {cs : Scope} {a : Addr} {ccd : Value} {cl : List (Str × Addr)} {prog : Program}
    (B : Below A₀ base l gk) (F : Fr gk L' s.heap m') (N : News gk L' s.heap news) (D : KtsDicts (frs l) gk)
    (hp : prog = PySem.Challenge.pw_pf0385_01) (hA : A = At dp un gd (envX cn cs L' a ccd cl :: l)) (hk : cs.kind = .function) (hd : dp + dn < recursionLimit) (hu : un + un' < cLine)
    (hesc : ∀ e cls h' tk', PE cls → Flew base (envX cn cs L' a ccd cl :: l) e cls s.heap h' → E (.ref e) { s with heap := h', toks := tk' })
    (hret : ∀ r h' tk' news', Fr gk L' h' m' → News gk L' h' news' → Post r news' → Q r { s with heap := h', toks := tk' }) :
    wpAny (model prog w) A (call (.ref f) vs) Q E s := by
  subst hp hA
  exact Cn dp un gd cn cs a ccd cl l A₀ gk L' m' s Q E B F N D hk hd hu (fun r h' tk' news' x1 x2 x3 => hret r h' tk' news' x2 x3 x1) hesc
end
end Lw
end
section
open PySem PySem.Spec PySem.W PySem.Calls PyProof.Rows
namespace Lw
theorem all_of_lt {news : List (Addr × Obj)} {a d : Nat} (h : ∀ p ∈ news, p.1 < a) (h2 : a ≤ d) : ∀ p ∈ news, p.1 ≠ d := fun p hp q => absurd (q ▸ h p hp : d < a) (Nat.not_lt.mpr h2)
theorem and_low {a b : Int} {k : Nat} (ha : 0 ≤ a) (h0 : 0 ≤ b) (h1 : b < 2 ^ k) : Builtin.bitAnd (a * 2 ^ k) b = 0 := by
  have p2 : (0 : Int) ≤ 2 ^ k := Int.le_of_lt (Int.pow_pos (by decide))
  rw [bitAnd_pp (Int.mul_nonneg ha p2) h0]
  obtain ⟨m, rfl⟩ := Int.eq_ofNat_of_zero_le ha
  obtain ⟨n, rfl⟩ := Int.eq_ofNat_of_zero_le h0
  have e : ((m : Int) * 2 ^ k).toNat = 2 ^ k * m := by
    have : ((m : Int) * 2 ^ k) = ((2 ^ k * m : Nat) : Int) := by push_cast; exact Int.mul_comm _ _
    rw [this, Int.toNat_natCast]
  rw [e, Int.toNat_natCast]
  have hn : n < 2 ^ k := by
    have : ((n : Nat) : Int) < ((2 ^ k : Nat) : Int) := by push_cast; exact h1
    exact_mod_cast this
  have h2 := nat_or_add_and (2 ^ k * m) n
  rw [← Nat.two_pow_add_eq_or_of_lt hn m] at h2
  have : 2 ^ k * m &&& n = 0 := by omega
  rw [this]
  rfl
theorem or_low {a b : Int} {k : Nat} (ha : 0 ≤ a) (h0 : 0 ≤ b) (h1 : b < 2 ^ k) : Builtin.bitOr (a * 2 ^ k) b = a * 2 ^ k + b := by
  rw [bitOr_and, and_low ha h0 h1, Int.sub_zero]
theorem xor_in {x y : Int} {k : Nat} (hx : 0 ≤ x) (hx1 : x < 2 ^ k) (hy : 0 ≤ y) (hy1 : y < 2 ^ k) : 0 ≤ Builtin.bitXor x y ∧ Builtin.bitXor x y < 2 ^ k := by
  unfold Builtin.bitXor
  rw [bitOr_and, bitAnd_pp hx hy]
  obtain ⟨m, rfl⟩ := Int.eq_ofNat_of_zero_le hx
  obtain ⟨n, rfl⟩ := Int.eq_ofNat_of_zero_le hy
  rw [Int.toNat_natCast, Int.toNat_natCast]
  have c : ∀ z : Nat, (z : Int) < 2 ^ k → z < 2 ^ k := fun z h => by
    have : ((z : Nat) : Int) < ((2 ^ k : Nat) : Int) := by push_cast; exact h
    exact_mod_cast this
  have h2 := nat_or_add_and m n
  have h3 := Nat.or_lt_two_pow (c m hx1) (c n hy1)
  have h4 : m &&& n ≤ m := Nat.and_le_left
  have h5 : m &&& n ≤ n := Nat.and_le_right
  have h6 : ((m ||| n : Nat) : Int) < ((2 ^ k : Nat) : Int) := by exact_mod_cast h3
  push_cast at h6
  omega
section
variable {prog : Program} {w : World} {A : Around} {E : Value → Shared → Prop} {s : Shared} {a b : Int} {t u : Tok} {Q : Value → Shared → Prop}
theorem lsh_walk (n : Nat) (h0 : 0 ≤ a) (h1 : a < 9223372036854775808) (hn : n ≤ 1000) (h : Q (.int (a * 2 ^ n) s.toks) { s with toks := s.toks + 1 }) : wpAny (model prog w) A (binaryOp .LShift (.int a t) (.int (n : Nat) u)) Q E s :=
  lshift_int_small (by omega) (by omega) (by have : (2 : Nat) ^ 64 = 18446744073709551616 := by decide
                                             omega) (by simpa using h)
theorem or_walk (n : Nat) (e : Int) (he : (2 : Int) ^ n = e) (h0 : 0 ≤ a) (h1 : 0 ≤ b) (h2 : b < e) (h : Q (.int (a * 2 ^ n + b) s.toks) { s with toks := s.toks + 1 }) : wpAny (model prog w) A (binaryOp .BitOr (.int (a * 2 ^ n) t) (.int b u)) Q E s := by
  refine or_int ?_
  rw [or_low h0 h1 (he ▸ h2)]
  exact h
end
end Lw
end
section
open PySem PySem.Spec PySem.W PySem.Calls PyProof.Rows PyProof.V
set_option maxRecDepth 100000
namespace Lw
theorem y_no_bytes : typeLookup (.type "int") "__bytes__" = pure none := by rw [typeLookup_type, builtinLookup_eq_fast]; kernel_rfl
theorem y_bytes : typeLookup (.type "bytes") "__bytes__" = pure (some (.builtin "bytes.__bytes__")) := by rw [typeLookup_type, builtinLookup_eq_fast]; kernel_rfl
section
variable {prog : Program} {w : World} {A : Around} {E : Value → Shared → Prop} {s : Shared} {t : Tok}
theorem y_new_int {n : Int} {Q : Value → Shared → Prop} (h0 : 0 ≤ n) (h1 : n ≤ 16000000)
    (hQ : ∀ t k, Q (.bytes (Array.replicate n.toNat 0) t) { s with toks := k }) :
    codeAny (model prog w) A (.call (.builtin "bytes.__new__") ⟨[.type "bytes", .int n t], []⟩) (wants Q E) s := by
  refine codeAny_of_tree ?_
  show wpAny _ A.in1 (do checkBuiltinCall "bytes.__new__" ⟨[.type "bytes", .int n t], []⟩; again (.builtin "bytes.__new__" ⟨[.type "bytes", .int n t], []⟩)) _ _ s
  refine wpAny_bind (wpAny_of_eq (F.bm_newCall _) (wpAny_pure ⟨plainId_quiet F.bm_plain _, codeAny_builtin F.bm_entry ?_⟩))
  rw [Around.under_plainId F.bm_plain _]
  unfold Builtin.«bytes.__new__»
  refine wpAny_bind (wpAny_of_eq (a := true) rfl ?_)
  refine bm_if_false rfl ?_
  refine wpAny_bind (wpAny_of_eq F.bm_sub ?_)
  refine bm_if_false rfl ?_
  refine wpAny_bind (wpAny_of_eq (F.bm_bind _) ?_)
  refine wpAny_bind (wpAny_of_eq (a := ()) rfl ?_)
  refine wpAny_bind (wpAny_of_eq (a := ()) rfl ?_)
  refine bm_if_false rfl ?_
  refine wpAny_bind (wpAny_specialOf (typeIs_int s n t) y_no_bytes ?_)
  refine wpAny_bind (wpAny_of_eq (a := false) rfl ?_)
  refine bm_if_false rfl ?_
  refine wpAny_bind (wpAny_specialOf (typeIs_int s n t) F.slot_int_index.lookup ?_)
  refine bm_if_false rfl ?_
  refine wpAny_bind (wpAny_attempt (wpAny_of_eq (rfl : asIndex (.int n t) = pure n) ?_))
  dsimp only
  have c1 : ¬ ((!Builtin.Bytes.fitsIndex n) = true) := by
    simp only [Builtin.Bytes.fitsIndex, Bool.not_eq_true', Bool.and_eq_false_iff, decide_eq_false_iff_not]; omega
  have c4 : ¬ (Builtin.Bytes.tooLong n.toNat = true) := by
    simp only [Builtin.Bytes.tooLong, sizeLine_eq, decide_eq_true_eq]; omega
  rw [if_neg c1, if_neg (by omega), if_neg (by omega), if_neg c4]
  refine wpAny_bind (wpAny_rule (wpAny_bind (wpAny_mkBytes ?_ (by rw [Array.size_replicate, sizeLine_eq]; omega))))
  show wpAny _ _ (if (Value.type "bytes" == Value.type "bytes") = true then _ else _) _ _ _
  refine bm_if_true (by decide) ?_
  first
    | exact wpAny_pure (hQ _ _)
    | exact wpAny_bind (wpAny_pure (wpAny_pure (hQ _ _)))
theorem y_new_bytes {b : Array UInt8} {Q : Value → Shared → Prop}
    (hQ : ∀ k, Q (.bytes b t) { s with toks := k }) :
    codeAny (model prog w) A (.call (.builtin "bytes.__new__") ⟨[.type "bytes", .bytes b t], []⟩) (wants Q E) s := by
  refine codeAny_of_tree ?_
  show wpAny _ A.in1 (do checkBuiltinCall "bytes.__new__" ⟨[.type "bytes", .bytes b t], []⟩; again (.builtin "bytes.__new__" ⟨[.type "bytes", .bytes b t], []⟩)) _ _ s
  refine wpAny_bind (wpAny_of_eq (F.bm_newCall _) (wpAny_pure ⟨plainId_quiet F.bm_plain _, codeAny_builtin F.bm_entry ?_⟩))
  rw [Around.under_plainId F.bm_plain _]
  unfold Builtin.«bytes.__new__»
  refine wpAny_bind (wpAny_of_eq (a := true) rfl ?_)
  refine bm_if_false rfl ?_
  refine wpAny_bind (wpAny_of_eq F.bm_sub ?_)
  refine bm_if_false rfl ?_
  refine wpAny_bind (wpAny_of_eq (F.bm_bind _) ?_)
  refine wpAny_bind (wpAny_of_eq (a := ()) rfl ?_)
  refine wpAny_bind (wpAny_of_eq (a := ()) rfl ?_)
  refine bm_if_false rfl ?_
  refine wpAny_bind (wpAny_specialOf (PySem.W.typeIs_bytes s b t) y_bytes ?_)
  refine wpAny_bind (wpAny_rule ?_)
  refine wpAny_bind (wpAny_of_eq (a := Value.type "bytes") rfl ?_)
  refine bm_if_true (by decide) ?_
  show wpAny _ _ (if (Value.type "bytes" == Value.type "bytes") = true then _ else _) _ _ _
  refine bm_if_true (by decide) ?_
  first
    | exact wpAny_pure (hQ _)
    | exact wpAny_bind (wpAny_pure (wpAny_pure (hQ _)))
theorem call_bytes_int {n : Int} {Q : Value → Shared → Prop} (h0 : 0 ≤ n) (h1 : n ≤ 16000000)
    (hQ : ∀ t k, KBw.bInts (Array.replicate n.toNat 0) = List.replicate n.toNat 0 → Q (.bytes (Array.replicate n.toNat 0) t) { s with toks := k }) : wpAny (model prog w) A (call (.type "bytes") [.int n t]) Q E s := by
  have e : KBw.bInts (Array.replicate n.toNat 0) = List.replicate n.toNat 0 := by simp [KBw.bInts]
  refine callType_codes (Q₁ := fun obj s₁ => s₁.TypeIs obj "bytes" ∧ Q obj s₁) F.bm_called (F.bm_typeCall _) F.entry_object_init
    (y_new_int h0 h1 fun t k => ⟨PySem.W.typeIs_bytes _ _ _, hQ t k e⟩) fun obj s₁ h₁ => ?_
  exact ⟨h₁.1, F.args_object_init_2 obj _, object_init_meets F.bm_called.init.lookup F.bm_called.made (by decide) prog w A.in1 _ s₁ ⟨h₁.1, rfl, h₁.2⟩⟩
theorem call_bytes_bytes {b : Array UInt8} {Q : Value → Shared → Prop}
    (hQ : ∀ k, Q (.bytes b t) { s with toks := k }) : wpAny (model prog w) A (call (.type "bytes") [.bytes b t]) Q E s := by
  refine callType_codes (Q₁ := fun obj s₁ => s₁.TypeIs obj "bytes" ∧ Q obj s₁) F.bm_called (F.bm_typeCall _) F.entry_object_init
    (y_new_bytes fun k => ⟨PySem.W.typeIs_bytes _ _ _, hQ k⟩) fun obj s₁ h₁ => ?_
  exact ⟨h₁.1, F.args_object_init_2 obj _, object_init_meets F.bm_called.init.lookup F.bm_called.made (by decide) prog w A.in1 _ s₁ ⟨h₁.1, rfl, h₁.2⟩⟩
end
end Lw
end
section
open PySem PySem.Spec PySem.W PySem.Calls PyProof.Rows
set_option maxRecDepth 100000
namespace Lw
section
variable {w : World} {p : Program} {loose : List Str} {mean : ExcName → Option Value} {mg mb : Str → Option Value} {base : Heap} {dn un' : Nat} {C fI : Addr} {vs : List Value} {news : List (Addr × Obj)} {Post : Value → List (Addr × Obj) → Prop} {PE : Value → Prop}
theorem con_class {name qual : Str} {params : Arguments} {body : List Stmt} {scope : Scope} {cl : List (Str × Addr)} {dV kV doc pm cdv ct oc : Value} {an od : Option Addr} {osl : Array (Option Value)} {binds : Addr → List (Str × Value)}
    (XB : (Lw.head.heap_1 w.params).In base) (TB : Top p loose mean mg mb base)
    (hm : makesIn (Lw.head.heap_1 w.params) C = true) (hi : findIn (Lw.head.heap_1 w.params) (.ref C) "__init__" = some (some (.ref fI))) (hf : isFn (Lw.head.heap_1 w.params) (.ref fI) = true)
    (ho : (Lw.head.heap_1 w.params).lookup fI = some ⟨oc, od, .func (fnX name qual params body scope cl dV kV doc pm an cdv ct), osl⟩) (hcd : codeIn (Lw.head.heap_1 w.params) cdv qual = true)
    (hbind : ∀ (x : Addr) (s : Shared), (Lw.head.heap_1 w.params).In s.heap → BindsTo s (fnX name qual params body scope cl dV kV doc pm an cdv ct) ⟨.ref x :: vs, []⟩ (binds x)) (hloc : ∀ x, ∀ y ∈ binds x, scope.names.lookup y.1 = some .local) (hdn : 5 ≤ dn)
    (h : ∀ (dp un : Nat) (gd : Option (List Code)) (l : List Env) (s : Shared) (g : Heap) (L' : Addr) (h₁ : Heap) (x dx : Addr), dp + dn < recursionLimit → un + un' < cLine → Anc s.heap g ((x, instObj C dx) :: (dx, dictOf [] 0) :: news) → Fr g L' h₁ (fun y => (binds x).reverse.lookup y) → News g L' h₁ ((x, instObj C dx) :: (dx, dictOf [] 0) :: news) →
      (∀ p ∈ news, p.1 < dx) → dx < x → x < L' → Below ((At dp un gd l).under (.builtin "type.__call__" ⟨.ref C :: vs, []⟩)) base l g →
      KtsDicts (frs l) g → (Lw.head.heap_1 w.params).In g → Top p loose mean mg mb g → KtsTurn (frs l) g g →
      wpAny (model PySem.Challenge.pw_pf0385_01 w) (((At dp un gd l).under (.builtin "type.__call__" ⟨.ref C :: vs, []⟩)).deeper (envX qual scope L' fI cdv cl)) (execs body (envX qual scope L' fI cdv cl))
        (fun fl s' => EndS g s (fun r news' => r = .none ∧ Post (.ref x) news') (match fl with | .ret v => v | _ => .none) s')
        (fun e s' => wpAny (model PySem.Challenge.pw_pf0385_01 w) (((At dp un gd l).under (.builtin "type.__call__" ⟨.ref C :: vs, []⟩)).deeper (envX qual scope L' fI cdv cl)) (leaving (envX qual scope L' fI cdv cl) e) (fun _ s'' => EscC base l s (fun _ => False) e s'') (fun e' s'' => EscC base l s (fun _ => False) e' s'') s')
        { s with heap := h₁, toks := s.toks + (binds x).length })
    (hcell : ∀ x ∈ scope.names, x.2 ≠ .cell) (hco : scope.isCoroutine = false) (hgen : scope.isGenerator = false) (hk : scope.kind = .function) : Con w base dn un' C vs news Post PE := by
  intro dp un gd cn cs a ccd cl₀ outer A₀ h₀ L m s Q E B F N D hcs hdp hun hret hesc
  refine call_cls F (XB.keeps B.stays) N hm hi hf fun x dx h' F₁ N₁ l1 l2 => ?_
  refine enterS_def (s := { s with heap := h' }) (env := envX cn cs L a ccd cl₀) (Post := fun r news' => r = .none ∧ Post (.ref x) news') (PE := fun _ => False) B F₁ N₁ D XB TB rfl rfl hcs ho hcd ?_ (hbind x _) (hloc x)
    ⟨fun r h'' tk' news' x1 x2 x3 => ?_, fun e cls h' tk' x1 x2 => x1.elim⟩
    (fun g L' h₁ AN F' N' l3 BG DG XG TG => h dp un gd _ { s with heap := h' } g L' h₁ x dx hdp hun AN F' N' l1 l2 (l3 _ (.head _)) BG DG XG TG .refl) hcell hco hgen hk
  · simp only [depth_under_make, depth_under_kw]
    show dp + _ < recursionLimit
    omega
  · obtain ⟨rfl, x1⟩ := x1
    exact ⟨rfl, hret _ _ _ _ x1 x2 x3⟩
end
end Lw
namespace Lw
section
variable {prog : Program} {w : World} {A : Around} {E : Value → Shared → Prop} {s : Shared} {a b : Int} {t u : Tok} {Q : Value → Shared → Prop}
theorem or_mod (n : Nat) (e : Int) (he : (2 : Int) ^ n = e) (h0 : 0 ≤ a) (hx : a % e = 0) (h1 : 0 ≤ b) (h2 : b < e) (h : Q (.int (a + b) s.toks) { s with toks := s.toks + 1 }) : wpAny (model prog w) A (binaryOp .BitOr (.int a t) (.int b u)) Q E s := by
  have e0 : 0 < e := by rw [← he]; exact Int.pow_pos (by decide)
  have : a = a / e * 2 ^ n := by
    have := Int.mul_ediv_add_emod a e
    rw [he, Int.mul_comm]; omega
  refine or_int ?_
  have q : Builtin.bitOr a b = a + b := by
    rw [this]
    exact or_low (Int.ediv_nonneg h0 (Int.le_of_lt e0)) h1 (he ▸ h2)
  rw [q]
  exact h
end
end Lw
end
section
open PySem PySem.Spec PySem.W PySem.Calls PyProof.Rows PyProof.V PySem.Builtin
set_option maxRecDepth 100000
set_option pp.maxSteps 4000
namespace Lw
theorem slot_join : Slot "bytes" "join" "bytes.join" :=
  .of (owner := "bytes") (n := "join") (by rw [typeLookup_type, builtinLookup_eq_fast]; kernel_rfl) (by decide +kernel) (by decide +kernel) (by decide +kernel)
    (by first | exact .inl (by decide +kernel) | exact .inr (by decide +kernel)) (by rw [isSubtype_type]; kernel_rfl)
theorem entry_join : entryFor table "bytes.join" = some Builtin.«bytes.join» := entryFor_of_tree (by kernel_rfl)
theorem args_join (a b : Value) : argsOk "bytes.join" ⟨[a, b], []⟩ := by unfold argsOk; kernel_rfl
theorem type_join : typeOf (.builtin "bytes.join") = pure (.type "method_descriptor") := by show builtinType _ = _; rw [builtinType_eq_fast]; kernel_rfl
section
variable {prog : Program} {w : World} {A : Around} {E : Value → Shared → Prop} {s : Shared} {b c : Array UInt8} {t u v : Tok} {l : Addr} {its : Array Value}
theorem take_eq {id : String} : Bytes.takeBufferQuiet? id (.bytes b t) 0 = pure (some (b, none)) := by
  unfold Bytes.takeBufferQuiet? Bytes.takeBuffer?
  rw [KBy.special_eq KBy.look_buffer, KBy.own_buffer, show ((0 : Int) == Bytes.fullReadOnly) = false from by decide +kernel, KBy.buffer_eq]
  kernel_rfl
theorem j_items {Q : Value → Shared → Prop} (hl : s.heap.IsList l its) (h : Q (.ref l) s) : wpAny (model prog w) A (Bytes.joinItems (.ref l)) Q E s := by
  have hT : s.TypeIs (.ref l) "list" := hl.typeIs
  unfold Bytes.joinItems
  refine wpAny_bind (wpAny_typeOf hT ?_)
  exact bm_if_true (by decide) (wpAny_pure h)
theorem j_seq {Q : Option (Array Value) → Shared → Prop} (hl : s.heap.IsList l its) (h : Q (some its) s) : wpAny (model prog w) A (seqItems? (.ref l)) Q E s := by
  obtain ⟨ol, hol, hoc, nl, hod⟩ := id hl
  show wpAny _ _ (load l >>= _) _ _ _
  refine wpAny_bind (wpAny_load hol ?_)
  rw [hod]
  exact wpAny_pure h
theorem j_letGo {Q : Unit → Shared → Prop} (h : Q () s) : ∀ {vs : List (Value × Option Value)} {keep : List Value}, (∀ q ∈ vs, q.2 = none) → wpAny (model prog w) A (Bytes.joinLetGo vs keep) Q E s
  | [], _, _ => wpAny_pure h
  | (x, none) :: r, keep, hn => by
    unfold Bytes.joinLetGo
    exact wpAny_bind (wpAny_letGo (j_letGo h fun q hq => hn q (List.mem_cons_of_mem _ hq)))
  | (x, some z) :: r, keep, hn => absurd (hn _ (.head _)) (fun q => nomatch q)
theorem meets_join1 : Meets («bytes.join» ⟨[.bytes #[] t, .ref l], []⟩) (fun _ R s => s.heap.IsList l #[.bytes b u] ∧ R (.ok (.ret (.bytes b u))) s) := by
  refine .of_wp fun prog w A R s hS => ?_
  obtain ⟨hl, h⟩ := hS
  unfold «bytes.join» Bytes.joinM
  refine wpAny_bind (wpAny_of_eq (a := (.bytes #[] t, .ref l)) rfl ?_)
  dsimp only
  refine bm_if_true (by decide) ?_
  refine wpAny_bind (j_items hl (wpAny_bind (j_seq hl ?_)))
  dsimp only
  refine bm_if_true (by decide) ?_
  refine wpAny_bind (wpAny_of_eq (a := Value.type "bytes") rfl ?_)
  refine bm_if_true (by decide) ?_
  exact wpAny_bind (wpAny_rule (wpAny_pure ⟨_, rfl, h⟩))
theorem meets_join0 : Meets («bytes.join» ⟨[.bytes #[] t, .ref l], []⟩) (fun _ R s => s.heap.IsList l #[] ∧ ∀ t' k, R (.ok (.ret (.bytes #[] t'))) { s with toks := k }) := by
  refine .of_wp fun prog w A R s hS => ?_
  obtain ⟨hl, h⟩ := hS
  unfold «bytes.join» Bytes.joinM
  refine wpAny_bind (wpAny_of_eq (a := (.bytes #[] t, .ref l)) rfl ?_)
  dsimp only
  refine bm_if_true (by decide) ?_
  refine wpAny_bind (j_items hl (wpAny_bind (j_seq hl ?_)))
  dsimp only
  refine bm_if_true (by decide) ?_
  with_unfolding_all refine wpAny_bind (wpAny_of_eq (a := (#[], [])) rfl ?_)
  dsimp only
  refine wpAny_bind (wpAny_of_eq (a := #[]) rfl ?_)
  refine bm_if_false (by decide) ?_
  refine wpAny_bind ?_
  refine wpAny_mkBytes ?_ (by decide)
  refine wpAny_bind (wpAny_holding (wpAny_point ?_))
  exact wpAny_bind (wpAny_pure (wpAny_pure ⟨_, rfl, h _ _⟩))
theorem meets_join2 (hsz : b.size + c.size ≤ 16777216) : Meets («bytes.join» ⟨[.bytes #[] t, .ref l], []⟩) (fun _ R s => s.heap.IsList l #[.bytes b u, .bytes c v] ∧ ∀ t' k, R (.ok (.ret (.bytes (b ++ c) t'))) { s with toks := k }) := by
  refine .of_wp fun prog w A R s hS => ?_
  obtain ⟨hl, h⟩ := hS
  unfold «bytes.join» Bytes.joinM
  refine wpAny_bind (wpAny_of_eq (a := (.bytes #[] t, .ref l)) rfl ?_)
  dsimp only
  refine bm_if_true (by decide) ?_
  refine wpAny_bind (j_items hl (wpAny_bind (j_seq hl ?_)))
  dsimp only
  refine bm_if_true (by decide) ?_
  with_unfolding_all refine wpAny_bind ?_
  refine wpAny_mono (Q := fun r s' => r = (#[b, c], [(Value.bytes b u, none), (Value.bytes c v, none)]) ∧ s' = s) (E := fun _ _ => False) ?_ ?_ ?_
  · rw [Std.Legacy.Range.forIn_eq_forIn_range']
    have e : List.range' ([:(#[Value.bytes b u, .bytes c v] : Array Value).size] : Std.Legacy.Range).start ([:(#[Value.bytes b u, .bytes c v] : Array Value).size] : Std.Legacy.Range).size ([:(#[Value.bytes b u, .bytes c v] : Array Value).size] : Std.Legacy.Range).step = [0, 1] := by with_unfolding_all rfl
    rw [e]
    rw [List.forIn_cons]
    refine wpAny_bind ?_
    refine wpAny_bind (j_seq hl ?_)
    dsimp only
    refine bm_if_false (by decide) ?_
    refine wpAny_bind (wpAny_holding (wpAny_of_eq (take_eq (b := b) (t := u)) ?_))
    dsimp only
    refine wpAny_bind (j_seq hl ?_)
    dsimp only
    refine bm_if_false (by simp) (wpAny_pure ?_)
    dsimp only
    rw [List.forIn_cons]
    refine wpAny_bind ?_
    refine wpAny_bind (j_seq hl ?_)
    dsimp only
    refine bm_if_false (by rfl) ?_
    refine wpAny_bind (wpAny_holding (wpAny_of_eq (take_eq (b := c) (t := v)) ?_))
    dsimp only
    refine wpAny_bind (j_seq hl ?_)
    dsimp only
    refine bm_if_false (by simp) (wpAny_pure ?_)
    dsimp only
    rw [List.forIn_nil]
    exact wpAny_pure ⟨rfl, rfl⟩
  · rintro _ _ ⟨rfl, rfl⟩
    dsimp only
    refine wpAny_bind (wpAny_of_eq (a := #[]) rfl ?_)
    refine bm_if_false ?_ ?_
    · have : Array.foldl (fun x1 (x2 : Array UInt8) => x1 + x2.size) ((#[] : Array UInt8).size * ((#[b, c] : Array (Array UInt8)).size - 1)) #[b, c] = b.size + c.size := by
        simp
      rw [this]
      exact KBy.tooLong_not hsz
    refine wpAny_bind ?_
    have e : Bytes.joined #[] [b, c] = b ++ c := by simp [Bytes.joined]
    show wpAny _ _ (mkBytes (Bytes.joined #[] [b, c])) _ _ _
    rw [e]
    refine wpAny_mkBytes ?_ (by rw [Array.size_append, sizeLine_eq]; exact hsz)
    refine wpAny_bind (wpAny_holding (wpAny_point ?_))
    exact wpAny_bind (j_letGo (wpAny_pure ⟨_, rfl, h _ _⟩) (by simp))
  · exact fun _ _ q => q.elim
theorem get_join {pl : Sem Bool} {Q : Value × List Value → Shared → Prop} (h : Q (.builtin "bytes.join", [.bytes b t]) s) : wpAny (model prog w) A (getMethod (.bytes b t) "join" pl) Q E s := by
  with_reducible exact KBd.method_of (.bytes b t) (PySem.W.typeIs_bytes _ _ _) slot_join type_join KBd.noRef h
theorem call_join0 {Q : Value → Shared → Prop} (hl : s.heap.IsList l #[]) (h : ∀ t' k, Q (.bytes #[] t') { s with toks := k }) : wpAny (model prog w) A (call (.builtin "bytes.join") [.bytes #[] t, .ref l]) Q E s :=
  call_meets slot_join (PySem.W.typeIs_bytes _ _ _) entry_join (args_join _ _) meets_join0 ⟨hl, h⟩
theorem call_join1 {Q : Value → Shared → Prop} (hl : s.heap.IsList l #[.bytes b u]) (h : Q (.bytes b u) s) : wpAny (model prog w) A (call (.builtin "bytes.join") [.bytes #[] t, .ref l]) Q E s :=
  call_meets slot_join (PySem.W.typeIs_bytes _ _ _) entry_join (args_join _ _) meets_join1 ⟨hl, h⟩
theorem call_join2 {Q : Value → Shared → Prop} {ks ls : List Int} (hl : s.heap.IsList l #[.bytes b u, .bytes c v]) (hb : KBw.bInts b = ks) (hc : KBw.bInts c = ls) (hsz : ks.length + ls.length ≤ 16777216) (h : ∀ t' k, KBw.bInts (b ++ c) = ks ++ ls → Q (.bytes (b ++ c) t') { s with toks := k }) : wpAny (model prog w) A (call (.builtin "bytes.join") [.bytes #[] t, .ref l]) Q E s :=
  call_meets slot_join (PySem.W.typeIs_bytes _ _ _) entry_join (args_join _ _) (meets_join2 (by rw [← KBw.ints_length b, ← KBw.ints_length c, hb, hc]; exact hsz)) ⟨hl, fun t' k => h t' k (KBw.ints_app hb hc)⟩
end
end Lw
end
section
open PySem PySem.Spec PySem.W PySem.Calls PyProof.Rows PyProof.Rows.LCg
set_option maxRecDepth 100000
set_option maxHeartbeats 400000
set_option linter.unusedVariables false
namespace Lw
theorem news_sub {g h : Heap} {L : Addr} {l l' : List (Addr × Obj)} (N : News g L h l) (s : ∀ p ∈ l', p ∈ l) : News g L h l' := fun p hp => N p (s p hp)
theorem news_dup1 {g h : Heap} {L : Addr} {l : List (Addr × Obj)} {q1 : Addr × Obj} (N : News g L h l) (h1 : q1 ∈ l) : News g L h (q1 :: l) := fun p hp => by
  rcases List.mem_cons.mp hp with rfl | hp
  · exact N _ h1
  · exact N _ hp
theorem news_dup2 {g h : Heap} {L : Addr} {l : List (Addr × Obj)} {q1 q2 : Addr × Obj} (N : News g L h l) (h1 : q1 ∈ l) (h2 : q2 ∈ l) : News g L h (q1 :: q2 :: l) := news_dup1 (news_dup1 N h2) (List.mem_cons_of_mem _ h1)
theorem sub1 {P : List (Addr × Obj)} {a : Addr × Obj} {g : Heap} {L : Addr} {h : Heap} (N : News g L h (a :: P)) : News g L h P := fun p hp => N p (List.mem_cons_of_mem _ hp)
def TupAt (ax : Addr) (its : Array Value) (news : List (Addr × Obj)) : Prop := ∃ n, (ax, ({ cls := .type "tuple", data := .seq its n } : Obj)) ∈ news
section
variable {prog : Program} {w : World} {A : Around} {E : Value → Shared → Prop} {s : Shared} {h₀ : Heap} {L : Addr} {m : Str → Option Value} {env : Env}
theorem TupAt.tup {h : Heap} {ax : Addr} {its : Array Value} {news : List (Addr × Obj)} (x : TupAt ax its news) (N : News h₀ L h news) : h.IsTuple ax its := by
  obtain ⟨n, hm⟩ := x
  exact ⟨_, (N _ hm).1, rfl, n, rfl⟩
def SrcT (prog : Program) (w : World) (A : Around) (h₀ : Heap) (L : Addr) (m : Str → Option Value) (env : Env) (elt : PySem.Expr) (x : Str) (scope : Scope) (cl : List (Str × Addr)) (Fin : Shared → List Value → List (Addr × Obj) → Prop) (xv : Value) (s₁ : Shared) : Prop :=
  ∃ ax its news, xv = .ref ax ∧ A.handled = none ∧ Fr h₀ L s₁.heap m ∧ News h₀ L s₁.heap news ∧ TupAt ax its news ∧ its.size ≤ sizeLine ∧
    ∀ s₂ : Shared, (∃ h, s₂ = { s₁ with heap := h }) → CompRest prog w A h₀ L m env elt x scope cl s₂ (TupAt ax its) (fun i v => its[i]? = some v) (Fin s₂) its.size 0 [] news
theorem SrcT.intro {elt : PySem.Expr} {x : Str} {scope : Scope} {cl : List (Str × Addr)} {Fin : Shared → List Value → List (Addr × Obj) → Prop} {ax : Addr} {its : Array Value} {k : Nat} {news : List (Addr × Obj)} {s₁ : Shared}
    (hh : A.handled = none) (F : Fr h₀ L s₁.heap m) (N : News h₀ L s₁.heap news) (hm : (ax, ({ cls := .type "tuple", data := .seq its k } : Obj)) ∈ news) (hsz : its.size ≤ sizeLine)
    (h : ∀ g, CompRest prog w A h₀ L m env elt x scope cl { s₁ with heap := g } (TupAt ax its) (fun i v => its[i]? = some v) (Fin { s₁ with heap := g }) its.size 0 [] news) :
    SrcT prog w A h₀ L m env elt x scope cl Fin (.ref ax) s₁ := ⟨ax, its, news, rfl, hh, F, N, ⟨_, hm⟩, hsz, fun _ ⟨g, e⟩ => e ▸ h g⟩
theorem tup_st {ax I : Addr} {its : Array Value} : ∀ i (h h' : Heap) (o : Obj) (nw : List (Addr × Obj)), (h.IsTupleIter I ax i ∧ h.IsTuple ax its) → h.get? I = some o → h'.get? I = some o → (∀ b o, h₀.get? b = some o → h'.get? b = some o) → News h₀ L h' nw → TupAt ax its nw → (h'.IsTupleIter I ax i ∧ h'.IsTuple ax its) :=
  fun i h h' o nw st e e' k N S => ⟨by obtain ⟨o', q, r⟩ := st.1; rw [e] at q; cases q; exact ⟨o, e', r⟩, S.tup N⟩
theorem ListComp_T {elt iter : PySem.Expr} {x : Str} {px : Pos} {scope : Scope} {cl : List (Str × Addr)} {pos : Pos} {Q : Value → Shared → Prop} (F₀ : Fr h₀ L s.heap m)
    (hclos : closureFor scope env = pure cl) (hcell : ∀ y ∈ scope.names, y.2 ≠ .cell) (hkind : scope.kind = .function)
    (hnames : ∀ y ∈ scope.names, y.2 = .local → scope.names.lookup y.1 = some .local) (hx : scope.names.lookup x = some .local)
    (h : wpAny (model prog w) A (eval iter env) (SrcT prog w A h₀ L m env elt x scope cl (fun s₂ => FinE h₀ L m s₂ Q)) E s)
    (hs : ∀ x, foldedSetIterable iter env x = pure x := by intro _; rfl) :
    wpAny (model prog w) A (eval (.ListComp elt [⟨.Name x px, iter, [], 0⟩] scope pos) env) Q E s := by
  rw [eval_ListComp]
  refine wpAny_comprehension_free (use := none) rfl hs hclos hkind hnames (wpAny_mono h (fun xv s₁ h₁ => ?_) fun _ _ e => e)
  obtain ⟨ax, its, news, rfl, hh, F, N, S, hsz, R⟩ := h₁
  have hl := S.tup N
  have hlt : ax < s₁.heap.objs.size := by obtain ⟨_, e, _⟩ := hl; exact Heap.lt_size e
  refine wpAny_pyIter_tuple hl ?_
  have up : ∀ b o, s₁.heap.get? b = some o → (s₁.heap.push { cls := .type "tuple_iterator", data := .fields #[.ref ax, .int 0 0] }).get? b = some o := fun b o e => Heap.get?_push_of_some _ e
  refine block_U (Walks.tuple hh s₁.heap.objs.size ax (Nat.ne_of_lt hlt) its) hsz (fun i h st => by obtain ⟨o, e, _⟩ := st.1; exact ⟨o, e⟩) tup_st hcell hkind hx ⟨⟨_, Heap.get?_push_size _ rfl, rfl, rfl⟩, hl.at fun o e => up _ _ e⟩ (fun b hb => ?_)
    (F.keeps up) (N.grown up) (Nat.ne_of_lt F.ns.lt) (next_is_new F) (fun p hp => Nat.ne_of_lt (Heap.lt_size (N p hp).1)) S (R _ ⟨_, rfl⟩) ?_
  · show b < (s₁.heap.push _).objs.size
    rw [Heap.size_push]
    rcases List.mem_cons.mp hb with rfl | hb
    · exact Nat.lt_succ_self _
    · rw [List.mem_singleton.mp hb]; exact Nat.lt_succ_of_lt hlt
  · intro D C h tk m' ys news' F' N' o1 hn hC₀ hD₀ hCL hDL hCD offC fin
    refine ⟨m', hn, fun h'' hs'' => fin D h'' tk (F'.change hs'' hCL hC₀) (fun p hp => ?_) o1⟩
    refine ⟨hs''.extBut _ _ ?_ (N' p hp).1, (N' p hp).2⟩
    rcases List.mem_cons.mp hp with rfl | hp
    · exact Ne.symm hCD
    · exact offC p hp
end
end Lw
end
section
open PySem PySem.Spec PySem.W PySem.Calls PyProof.Rows
set_option maxRecDepth 100000
namespace Lw
section
variable {A : Around} {base g hs h' : Heap} {outer : List Env} {L e : Addr} {m : Str → Option Value} {news : List (Addr × Obj)} {env : Env} {cls : Value}
theorem flew_sn (K : Below A base outer g) (F : Fr g L hs m) (N : News g L hs news) (hf : env.frame = some L) (R : Flew base (env :: outer) e cls hs h') :
    ∃ G, RaisedSN base G (env :: outer) e cls news h' ∧ Fr g L G m ∧ G.UpToSlots h' := by
  obtain ⟨⟨B, a0, hB, hBG, hfl⟩, up⟩ := R
  have nm : ∀ b o, g.get? b = some o → b ∉ news.map (·.1) := fun b o e q => by
    obtain ⟨p, hp, rfl⟩ := List.mem_map.mp q
    rw [(N p hp).2.2] at e; cases e
  obtain ⟨oL, es, ep, hL, hLd, hLk, hLf⟩ := F.ns
  have nL : L ∉ news.map (·.1) := fun q => by
    obtain ⟨p, hp, e⟩ := List.mem_map.mp q
    exact (N p hp).2.1 e
  refine ⟨hideAll hs (news.map (·.1)), ⟨B, a0, hB, fun b o q nf => hBG b o (of_hideAll _ q) nf, fun q hq => ⟨hBG _ _ (N q hq).1 fun hm => ?_, hideAll_none _ (List.mem_map_of_mem hq), ?_⟩, hfl⟩,
    ⟨⟨oL, es, ep, hideAll_get _ hL nL, hLd, hLk, hLf⟩, fun b o q => hideAll_get _ (F.keep b o q) (nm b o q), ?_⟩, fun b o q hn => up b o (of_hideAll _ q) hn⟩
  · have hm' : q.1 ∈ frs (env :: outer) := hm
    rw [frs_cons hf] at hm'
    rcases List.mem_cons.mp hm' with z | z
    · exact (N q hq).2.1 z
    · obtain ⟨o, ho, _⟩ := (K.frames.mem z).2
      rw [(N q hq).2.2] at ho; cases ho
  · cases z : base.get? q.1 with
    | none => rfl
    | some o => have := K.stays _ _ z; rw [(N q hq).2.2] at this; cases this
  · exact F.above
end
end Lw
end
section
open PySem PySem.Spec PySem.W PySem.Calls PyProof.Rows
set_option maxRecDepth 100000
set_option linter.unusedVariables false
namespace Lw
def RecIn (qual : Str) (c' : Addr) (l : List (Addr × Obj)) : Prop := ∃ oc vs t, (c', oc) ∈ l ∧ oc.data = .fields vs ∧ vs[1]? = some (.str qual t)
theorem RecIn.mono {qual : Str} {c' : Addr} {l l' : List (Addr × Obj)} (r : RecIn qual c' l) (s : ∀ p ∈ l, p ∈ l') : RecIn qual c' l' := by
  obtain ⟨oc, vs, t, h, r⟩ := r
  exact ⟨oc, vs, t, s _ h, r⟩
def TabGood (qual : Str) (ps : Array Value) (l : List (Addr × Obj)) : Prop := TriplesOk ps.toList ∧ ∀ pos v, codeAmong pos ps.toList = some v → ∃ c', v = .ref c' ∧ RecIn qual c' l
theorem TabGood.mono {qual : Str} {ps : Array Value} {l l' : List (Addr × Obj)} (r : TabGood qual ps l) (s : ∀ p ∈ l, p ∈ l') : TabGood qual ps l' :=
  ⟨r.1, fun pos v e => by
    obtain ⟨c', h, q⟩ := r.2 pos v e
    exact ⟨c', h, q.mono s⟩⟩
theorem TabGood.nil {qual : Str} {l : List (Addr × Obj)} : TabGood qual #[] l := ⟨trivial, fun pos v e => by cases e⟩
theorem among_app {pos pos' : Pos} {c v : Value} : ∀ (l : List Value), TriplesOk l → codeAmong pos' (l ++ [rawInt pos.line, rawInt pos.col, c]) = some v → codeAmong pos' l = some v ∨ v = c
  | [], _, e => by
    simp only [List.nil_append, rawInt, codeAmong] at e
    split at e
    · exact .inr (Option.some.inj e).symm
    · cases e
  | .int a t :: .int b u :: x :: r, h, e => by
    simp only [List.cons_append, codeAmong] at e ⊢
    split at e
    · rename_i q
      rw [if_pos q]
      exact .inl e
    · rename_i q
      rw [if_neg q]
      exact among_app r h e
theorem triples_app {pos : Pos} {c : Value} : ∀ (l : List Value), TriplesOk l → TriplesOk (l ++ [rawInt pos.line, rawInt pos.col, c])
  | [], _ => trivial
  | .int a t :: .int b u :: x :: r, h => triples_app r h
section
variable {M : Model} {A : Around} {E : Value → Shared → Prop} {s : Shared} {h₀ : Heap} {L a c P : Addr} {m mg mb : Str → Option Value} {cn : Str} {cs : Scope} {ccd : Value} {cl : List (Str × Addr)} {news : List (Addr × Obj)}
  {p : Program} {loose : List Str} {mean : ExcName → Option Value} {params : Arguments} {body : PySem.Expr} {scope : Scope} {ps : Array Value} {pos : Pos} {clos : List (Str × Addr)}
theorem lam_any {Q : Value → Shared → Prop} (F : Fr h₀ L s.heap m) (N : News h₀ L s.heap ((P, tabObj ps) :: news)) (T : Top p loose mean mg mb h₀) (C : CodeHd h₀ c P) (hcd : ccd = .ref c) (off : ∀ q ∈ news, q.1 ≠ P)
    (TG : TabGood ((envX cn cs L a ccd cl).qual ++ "<lambda>") ps news) (hdef : defaultsOf params (envX cn cs L a ccd cl) = ([], [])) (hcl : closureFor scope (envX cn cs L a ccd cl) = pure clos)
    (h : ∀ f c' pm ctv h' tk ps' ex, Fr h₀ L h' m → News h₀ L h' ((f, kla_obj "<lambda>" ((envX cn cs L a ccd cl).qual ++ "<lambda>") params body scope clos pm c' ctv) :: (P, tabObj ps') :: (ex ++ news)) →
      TabGood ((envX cn cs L a ccd cl).qual ++ "<lambda>") ps' (ex ++ news) → RecIn ((envX cn cs L a ccd cl).qual ++ "<lambda>") c' (ex ++ news) → (∀ q ∈ ex, (P < q.1 ∧ ∀ z ∈ news, z.1 < q.1) ∧ q.1 < f) → (P < f ∧ ∀ z ∈ news, z.1 < f) → Q (.ref f) { s with heap := h', toks := tk }) :
    wpAny M A (eval (.Lambda params body scope pos) (envX cn cs L a ccd cl)) Q E s := by
  refine kla_eval hdef ?_
  cases e : codeAmong pos ps.toList with
  | none =>
    refine kla_nest F N T C hcd (.head off) TG.1 e hcl fun f c' oc vs t ctv h' tk F' N' hd hv lt1 lt2 => ?_
    have la : P < c' := lt1 _ (.head _)
    refine h f c' ((mg "__name__").getD .none) ctv h' tk (ps ++ #[rawInt pos.line, rawInt pos.col, .ref c']) [(c', oc)] F' (news_sub N' ?_) ⟨?_, fun pos' v e' => ?_⟩ ⟨oc, vs, t, .head _, hd, hv⟩ ?_ ⟨Nat.lt_trans la lt2, fun z hz => Nat.lt_trans (lt1 z (.tail _ hz)) lt2⟩
    · intro q hq
      rcases List.mem_cons.mp hq with rfl | hq
      · exact .head _
      · rcases List.mem_cons.mp hq with rfl | hq
        · exact .tail _ (.tail _ (.head _))
        · rcases List.mem_cons.mp hq with rfl | hq
          · exact .tail _ (.head _)
          · exact .tail _ (.tail _ (.tail _ hq))
    · rw [Array.toList_append]
      exact triples_app _ TG.1
    · rw [Array.toList_append] at e'
      rcases among_app _ TG.1 e' with q | q
      · obtain ⟨c₁, h1, h2⟩ := TG.2 _ _ q
        exact ⟨c₁, h1, h2.mono fun _ hz => .tail _ hz⟩
      · exact ⟨c', q, oc, vs, t, .head _, hd, hv⟩
    · intro q hq
      rw [List.mem_singleton.mp hq]
      exact ⟨⟨la, fun z hz => lt1 z (.tail _ hz)⟩, lt2⟩
  | some v =>
    obtain ⟨c', rfl, R⟩ := TG.2 _ _ e
    refine kla_hit F N T C hcd (.head _) TG.1 e hcl fun f ctv h' tk F' N' lt => ?_
    exact h f c' _ ctv h' tk ps [] F' N' TG R (fun _ hq => nomatch hq) ⟨lt _ (.head _), fun z hz => lt z (.tail _ hz)⟩
end
section
variable {prog : Program} {w : World} {p : Program} {loose : List Str} {mean : ExcName → Option Value} {mg mb : Str → Option Value} {base : Heap} {dn un' : Nat} {f : Addr} {vs : List Value} {news : List (Addr × Obj)} {Post : Value → List (Addr × Obj) → Prop} {PE : Value → Prop}
theorem con_lam {name qual : Str} {params : Arguments} {body : PySem.Expr} {scope : Scope} {cl : List (Str × Addr)} {pm ctv : Value} {c' : Addr} {binds : List (Str × Value)}
    (XB : (Lw.head.heap_1 w.params).In base) (TB : Top p loose mean mg mb base)
    (ho : (f, kla_obj name qual params body scope cl pm c' ctv) ∈ news) (hrec : RecIn qual c' news)
    (hbind : bindArgs (kla_fn name qual params body scope cl pm (.ref c') ctv) ⟨vs, []⟩ = pure binds) (hloc : ∀ y ∈ binds, scope.names.lookup y.1 = some .local) (hdn : 1 ≤ dn)
    (h : ∀ (dp un : Nat) (gd : Option (List Code)) (l : List Env) (s : Shared) (g : Heap) (L' : Addr) (h₁ : Heap), dp + dn < recursionLimit → un + un' < cLine → Anc s.heap g news → Fr g L' h₁ (fun y => binds.reverse.lookup y) → News g L' h₁ news → (∀ p ∈ news, p.1 < L') → Below (At dp un gd l) base l g →
      KtsDicts (frs l) g → (Lw.head.heap_1 w.params).In g → Top p loose mean mg mb g → KtsTurn (frs l) g g →
      wpAny (model PySem.Challenge.pw_pf0385_01 w) ((At dp un gd l).deeper (envX qual scope L' f (.ref c') cl)) (eval body (envX qual scope L' f (.ref c') cl))
        (fun v s' => EndS g s Post v s')
        (fun e s' => wpAny (model PySem.Challenge.pw_pf0385_01 w) ((At dp un gd l).deeper (envX qual scope L' f (.ref c') cl)) (leaving (envX qual scope L' f (.ref c') cl) e) (fun _ s'' => EscC base l s PE e s'') (fun e' s'' => EscC base l s PE e' s'') s')
        { s with heap := h₁, toks := s.toks + binds.length })
    (hcell : ∀ x ∈ scope.names, x.2 ≠ .cell) (hco : scope.isCoroutine = false) (hgen : scope.isGenerator = false) (hk : scope.kind = .function) : Con w base dn un' f vs news Post PE := by
  intro dp un gd cn cs a ccd cl₀ outer A₀ h₀ L m s Q E B F N D hcs hdp hun hret hesc
  refine wpAny_call ?_
  obtain ⟨BG, DG, st, lv⟩ := ground_in (A := At dp un gd (envX cn cs L a ccd cl₀ :: outer)) (env := envX cn cs L a ccd cl₀) B F N D rfl rfl hcs
  have LH := TB.nolimit.keeps fun b o e => F.keep b o (B.stays b o e)
  obtain ⟨oc, cvs, t, hoc, hd, hv⟩ := hrec
  refine kla_callFunE (by show dp < recursionLimit; omega) (N _ ho).1 rfl hco hgen rfl ⟨_, oc, cvs, t, rfl, (N _ hoc).1, hd, hv⟩ ?_
  rw [hbind]
  refine wpAny_pure (wpAny_newFunctionEnv hcell hloc (fun h₁ hns hsb => ⟨LH.fresh _ hsb, ?_⟩) hk)
  show codeAny _ _ (.expr body (envX qual scope s.heap.objs.size f (.ref c') cl)) _ _
  have hk₁ : ∀ b o, s.heap.get? b = some o → h₁.get? b = some o := fun b o e => hsb.extBut b o (Nat.ne_of_lt (Heap.lt_size e)) (Heap.get?_push_of_some _ e)
  refine kla_codeExpr (wpAny_mono (h dp un gd _ s _ s.heap.objs.size h₁ hdp hun (anc_of N) ⟨hns, fun b o e => hk₁ b o (of_hideAll _ e), Nat.le_of_eq (hideAll_size _ _)⟩
    (fun p hp => ⟨hk₁ _ _ (N p hp).1, Nat.ne_of_lt (Heap.lt_size (N p hp).1), hideAll_none _ (List.mem_map_of_mem hp)⟩) (fun p hp => Heap.lt_size (N p hp).1) BG DG (XB.keeps BG.stays) (TB.keeps BG.stays) .refl) (fun v s' hl => ?_) fun e s' hl => ?_)
  · obtain ⟨L', m', news', h', tk', rfl, x1, x3, x4⟩ := hl
    obtain ⟨y1, y2⟩ := keep_back F N x3 x4
    exact hret _ h' tk' news' x1 y1 y2
  · refine wpAny_mono hl (fun _ _ x => ?_) fun _ _ x => ?_ <;>
    · obtain ⟨e, cls, h', tk', rfl, rfl, x1, x2⟩ := x
      exact hesc e cls h' tk' x1 x2
end
end Lw
namespace Lw
inductive Split (T : List (Addr × Obj)) : List (Addr × Obj) → List (Addr × Obj) → Prop
  | nil : Split T T []
  | cons (x) {l A} : Split T l A → Split T (x :: l) (x :: A)
theorem Split.eq {T : List (Addr × Obj)} : ∀ {l A : List (Addr × Obj)}, Split T l A → l = A ++ T
  | _, _, .nil => rfl
  | _, _, .cons x s => congrArg (x :: ·) s.eq
section
variable {M : Model} {A : Around} {E : Value → Shared → Prop} {s : Shared} {h₀ : Heap} {L a c P : Addr} {m mg mb : Str → Option Value} {cn : Str} {cs : Scope} {ccd : Value} {cl : List (Str × Addr)} {news A1 T1 : List (Addr × Obj)}
  {p : Program} {loose : List Str} {mean : ExcName → Option Value} {params : Arguments} {body : PySem.Expr} {scope : Scope} {ps : Array Value} {pos : Pos} {clos : List (Str × Addr)}
theorem lam_any2 {Q : Value → Shared → Prop} (F : Fr h₀ L s.heap m) (N : News h₀ L s.heap ((P, tabObj ps) :: news)) (T : Top p loose mean mg mb h₀) (C : CodeHd h₀ c P) (hcd : ccd = .ref c) (off : ∀ q ∈ news, q.1 ≠ P) (S : Split T1 news A1)
    (TG : TabGood ((envX cn cs L a ccd cl).qual ++ "<lambda>") ps T1) (hdef : defaultsOf params (envX cn cs L a ccd cl) = ([], [])) (hcl : closureFor scope (envX cn cs L a ccd cl) = pure clos)
    (h : ∀ f c' pm ctv h' tk ps' ex, Fr h₀ L h' m → News h₀ L h' ((f, kla_obj "<lambda>" ((envX cn cs L a ccd cl).qual ++ "<lambda>") params body scope clos pm c' ctv) :: (P, tabObj ps') :: (A1 ++ (ex ++ T1))) →
      TabGood ((envX cn cs L a ccd cl).qual ++ "<lambda>") ps' (ex ++ T1) → RecIn ((envX cn cs L a ccd cl).qual ++ "<lambda>") c' (A1 ++ (ex ++ T1)) → (∀ q ∈ ex, (P < q.1 ∧ ∀ z ∈ news, z.1 < q.1) ∧ q.1 < f) → AllLt f ((P, tabObj ps) :: news) → Q (.ref f) { s with heap := h', toks := tk }) :
    wpAny M A (eval (.Lambda params body scope pos) (envX cn cs L a ccd cl)) Q E s := by
  have e := S.eq
  subst e
  refine kla_eval hdef ?_
  cases e : codeAmong pos ps.toList with
  | none =>
    refine kla_nest F N T C hcd (.head off) TG.1 e hcl fun f c' oc vs t ctv h' tk F' N' hd hv lt1 lt2 => ?_
    have la : P < c' := lt1 _ (.head _)
    have mv : ∀ q, q ∈ A1 ++ ([(c', oc)] ++ T1) → q = (c', oc) ∨ q ∈ A1 ++ T1 := fun q hq => by
      rcases List.mem_append.mp hq with hq | hq
      · exact .inr (List.mem_append_left _ hq)
      · rcases List.mem_cons.mp hq with rfl | hq
        · exact .inl rfl
        · exact .inr (List.mem_append_right _ hq)
    refine h f c' ((mg "__name__").getD .none) ctv h' tk (ps ++ #[rawInt pos.line, rawInt pos.col, .ref c']) [(c', oc)] F' (news_sub N' ?_) ⟨?_, fun pos' v e' => ?_⟩ ⟨oc, vs, t, List.mem_append_right _ (.head _), hd, hv⟩ ?_ (allLt_of fun z hz => Nat.lt_trans (lt1 z hz) lt2)
    · intro q hq
      rcases List.mem_cons.mp hq with rfl | hq
      · exact .head _
      · rcases List.mem_cons.mp hq with rfl | hq
        · exact .tail _ (.tail _ (.head _))
        · rcases mv q hq with rfl | hq
          · exact .tail _ (.head _)
          · exact .tail _ (.tail _ (.tail _ hq))
    · rw [Array.toList_append]
      exact triples_app _ TG.1
    · rw [Array.toList_append] at e'
      rcases among_app _ TG.1 e' with q | q
      · obtain ⟨c₁, h1, h2⟩ := TG.2 _ _ q
        exact ⟨c₁, h1, h2.mono fun _ hz => .tail _ hz⟩
      · exact ⟨c', q, oc, vs, t, .head _, hd, hv⟩
    · intro q hq
      rw [List.mem_singleton.mp hq]
      exact ⟨⟨la, fun z hz => lt1 z (.tail _ hz)⟩, lt2⟩
  | some v =>
    obtain ⟨c', rfl, R⟩ := TG.2 _ _ e
    refine kla_hit F N T C hcd (.head _) TG.1 e hcl fun f ctv h' tk F' N' lt => ?_
    exact h f c' _ ctv h' tk ps [] F' N' TG (R.mono fun _ hz => List.mem_append_right _ hz) (fun _ hq => nomatch hq) (allLt_of lt)
end
end Lw
end
section
open PySem PySem.Spec PySem.W PySem.Calls PyProof.Rows
set_option maxRecDepth 100000
set_option linter.unusedVariables false
namespace Lw
section
variable {w : World} {base : Heap} {dn un' : Nat} {f : Addr} {vs : List Value} {news : List (Addr × Obj)} {Post Post' : Value → List (Addr × Obj) → Prop} {PE PE' : Value → Prop}
theorem con_mono (C : Con w base dn un' f vs news Post PE) (h : ∀ r n, Post r n → Post' r n) (he : ∀ c, PE c → PE' c) : Con w base dn un' f vs news Post' PE' := fun dp un gd cn cs a ccd cl outer A₀ h₀ L m s Q E B F N D hcs hdp hun hret hesc =>
  C dp un gd cn cs a ccd cl outer A₀ h₀ L m s Q E B F N D hcs hdp hun (fun r h' tk' news' x1 x2 x3 => hret r h' tk' news' (h _ _ x1) x2 x3) fun e cls h' tk' x => hesc e cls h' tk' (he _ x)
end
section
variable {w : World} {base : Heap} {dn un' : Nat} {f : Addr} {vs : List Value} {news : List (Addr × Obj)} {Post Post' : Value → List (Addr × Obj) → Prop} {PE PE' : Value → Prop}
theorem conT_mono (C : ConT w base dn un' f vs news Post PE) (h : ∀ r n, Post r n → Post' r n) (he : ∀ c, PE c → PE' c) : ConT w base dn un' f vs news Post' PE' := fun dp un gd cn cs a ccd cl outer A₀ h₀ L m s Q E B F N D hcs hdp hun hret hesc =>
  C dp un gd cn cs a ccd cl outer A₀ h₀ L m s Q E B F N D hcs hdp hun (fun r h₀' h' tk' news' x1 x2 x3 x4 x5 => hret r h₀' h' tk' news' (h _ _ x1) x2 x3 x4 x5) fun e cls h' tk' x => hesc e cls h' tk' (he _ x)
end
def GoIf : Prop := True
def CutS {α : Type} (s : Shared) (g : Heap) (L : Addr) (m : Str → Option Value) (news : List (Addr × Obj)) (P : α → Prop) (v : α) (s' : Shared) : Prop := ∃ h' tk', s' = { s with heap := h', toks := tk' } ∧ Fr g L h' m ∧ News g L h' news ∧ P v
section
variable {M : Model} {A : Around} {s : Shared} {g : Heap} {L : Addr} {m : Str → Option Value} {news : List (Addr × Obj)}
theorem cut_at {α : Type} {x : Sem α} {Q : α → Shared → Prop} {E : Value → Shared → Prop} (P : α → Prop) (F : Fr g L s.heap m) (N : News g L s.heap news) (h1 : GoIf → wpAny M A x (fun v s' => CutS s g L m news P v s') (fun _ _ => False) s)
    (h2 : ∀ v h' tk', Fr g L h' m → News g L h' news → P v → Q v { s with heap := h', toks := tk' }) : wpAny M A x Q E s :=
  wpAny_mono (h1 trivial) (fun v s' hc => by
    obtain ⟨h', tk', rfl, F', N', x⟩ := hc
    exact h2 v h' tk' F' N' x) fun _ _ q => q.elim
theorem cut_end {α : Type} {P : α → Prop} {v : α} {h' : Heap} {tk' : Nat} (F' : Fr g L h' m) (N' : News g L h' news) (x : P v) : CutS s g L m news P v { s with heap := h', toks := tk' } := ⟨h', tk', rfl, F', N', x⟩
end
end Lw
end
section
open PySem PySem.Spec PySem.W PySem.Calls PyProof.Rows
open AutoSeq1 (wpAny_loadPart')
set_option maxRecDepth 100000
set_option linter.unusedVariables false
namespace Lw
section
variable {prog : Program} {w : World} {A : Around} {E : Value → Shared → Prop} {s : Shared}
theorem call_range_in {r : Addr} {a b c k : Int} {t u v tk : Tok} {Q : Value → Shared → Prop} (hr : IsRange s.heap r a b c t u v) (h : Q (.bool (Builtin.Range.rangePlace? a b c k).isSome) s) :
    wpAny (model prog w) A (call (.builtin "range.__contains__") [.ref r, .int k tk]) Q E s := by
  have hT : s.TypeIs (.ref r) "range" := ⟨_, hr, rfl⟩
  refine wpAny_call_entry F.slot_range_contains hT F.entry_range_contains ?_ (F.args_range_contains_2 _ _)
  obtain ⟨hp, g, d, tk, os⟩ := s
  wp_walk using wpAny_loadPart' hr
  exact ⟨_, rfl, h⟩
theorem in_range {r : Addr} {b k : Int} {t u v tk : Tok} {Q : Value → Shared → Prop} (hr : IsRange s.heap r 0 b 1 t u v) (x : Bool) (hx : x = decide (0 ≤ k ∧ k < b)) (h : Q (.bool x) s) : wpAny (model prog w) A (compareOp .In (.int k tk) (.ref r)) Q E s := by
  have hT : s.TypeIs (.ref r) "range" := ⟨_, hr, rfl⟩
  show wpAny _ A (do return .bool (← contains (.ref r) (.int k tk))) Q E s
  refine wpAny_bind (wpAny_contains_slot hT F.slot_range_contains (call_range_in hr (wpAny_truthy_bool (wpAny_pure ?_))))
  have e : (Builtin.Range.rangePlace? 0 b 1 k).isSome = x := by
    subst hx
    unfold Builtin.Range.rangePlace?
    by_cases h1 : 0 ≤ k <;> by_cases h2 : k < b <;> simp [h1, h2]
  rw [e]
  exact h
end
def CutIf : Prop := True
def CutV (s : Shared) (g : Heap) (L : Addr) (m : Str → Option Value) (news : List (Addr × Obj)) (nm : Str) (P : Value → Prop) (fl : Flow) (s' : Shared) : Prop :=
  ∃ v h' tk', fl = .next ∧ s' = { s with heap := h', toks := tk' } ∧ Fr g L h' (fun y => if y = nm then some v else m y) ∧ News g L h' news ∧ P v
section
variable {M : Model} {A : Around} {s : Shared} {g : Heap} {L : Addr} {m : Str → Option Value} {news : List (Addr × Obj)}
theorem cut_if {x : Sem Flow} {Q : Flow → Shared → Prop} {E : Value → Shared → Prop} (nm : Str) (P : Value → Prop) (F : Fr g L s.heap m) (N : News g L s.heap news) (h1 : GoIf → wpAny M A x (fun fl s' => CutV s g L m news nm P fl s') (fun _ _ => False) s)
    (h2 : ∀ v h' tk', Fr g L h' (fun y => if y = nm then some v else m y) → News g L h' news → P v → Q .next { s with heap := h', toks := tk' }) : wpAny M A x Q E s :=
  wpAny_mono (h1 trivial) (fun fl s' hc => by
    obtain ⟨v, h', tk', rfl, rfl, F', N', x⟩ := hc
    exact h2 v h' tk' F' N' x) fun _ _ q => q.elim
theorem cutv_set {nm : Str} {P : Value → Prop} {v : Value} {h' : Heap} {tk' : Nat} (F' : Fr g L h' (fun y => if y = nm then some v else m y)) (N' : News g L h' news) (x : P v) : CutV s g L m news nm P .next { s with heap := h', toks := tk' } := ⟨v, h', tk', rfl, rfl, F', N', x⟩
theorem cutv_skip {nm : Str} {P : Value → Prop} {v : Value} {h' : Heap} {tk' : Nat} (F' : Fr g L h' m) (N' : News g L h' news) (e : m nm = some v) (x : P v) : CutV s g L m news nm P .next { s with heap := h', toks := tk' } := by
  refine cutv_set (v := v) ?_ N' x
  have q : (fun y => if y = nm then some v else m y) = m := funext fun y => by
    by_cases c : y = nm
    · rw [if_pos c, c, e]
    · rw [if_neg c]
  rw [q]
  exact F'
end
inductive Thin : List (Addr × Obj) → List (Addr × Obj) → Prop
  | dropL {a vs n l r} : Thin l r → Thin ((a, listOf vs n) :: l) r
  | dropT {a vs n l r} : Thin l r → Thin ((a, ⟨Value.type "tuple", none, Data.seq vs n, #[]⟩) :: l) r
  | keep {x l r} : Thin l r → Thin (x :: l) (x :: r)
  | nil (l) : Thin l l
theorem Thin.sub : ∀ {l r : List (Addr × Obj)}, Thin l r → ∀ p ∈ r, p ∈ l
  | _, _, .nil _ => fun _ h => h
  | _, _, .dropL t => fun p h => List.mem_cons_of_mem _ (t.sub p h)
  | _, _, .dropT t => fun p h => List.mem_cons_of_mem _ (t.sub p h)
  | _, _, .keep t => fun p h => by
    rcases List.mem_cons.mp h with rfl | h
    · exact .head _
    · exact List.mem_cons_of_mem _ (t.sub _ h)
theorem news_thin {g h : Heap} {L : Addr} {l r : List (Addr × Obj)} (N : News g L h l) (T : Thin l r) : News g L h r := news_sub N T.sub
end Lw
end
section
open PySem PySem.Spec PySem.W PySem.Calls PyProof.Rows
namespace Lw
theorem dstepk {dp k a b R : Nat} (h : dp + b < R) (e : Nat.ble (k + a) b = true) : dp + k + a < R :=
  Nat.lt_of_le_of_lt (Nat.le_trans (Nat.le_of_eq (Nat.add_assoc dp k a)) (Nat.add_le_add_left (Nat.le_of_ble_eq_true e) dp)) h
theorem const_d {M : Model} {A : Around} {E : Value → Shared → Prop} {env : Env} {i : Int} {k : Nat} {pos : Pos} {Q : Value → Shared → Prop} {h : Heap} {g : Array GenState} {d : Drawn} {t : Nat} {o : OsState}
    (hq : Q (.int i t) ⟨h, g, d, t + 1, o⟩) : wpAny M A (eval (.Constant (.int i) k pos) env) Q E ⟨h, g, d, t, o⟩ := wpAny_Constant_int hq
section
variable {prog : Program} {w : World} {A : Around} {E Q : Value → Shared → Prop} {a b : Int} {t u : Tok} {sh : Heap} {sg : Array GenState} {sd : Drawn} {sk : Nat} {so : OsState}
theorem add_d (h : Q (.int (a + b) sk) ⟨sh, sg, sd, sk + 1, so⟩) : wpAny (model prog w) A (binaryOp .Add (.int a t) (.int b u)) Q E ⟨sh, sg, sd, sk, so⟩ := add_int h
theorem iadd_d (h : Q (.int (a + b) sk) ⟨sh, sg, sd, sk + 1, so⟩) : wpAny (model prog w) A (inplaceOp .Add (.int a t) (.int b u)) Q E ⟨sh, sg, sd, sk, so⟩ := iadd_int h
theorem sub_d (h : Q (.int (a - b) sk) ⟨sh, sg, sd, sk + 1, so⟩) : wpAny (model prog w) A (binaryOp .Sub (.int a t) (.int b u)) Q E ⟨sh, sg, sd, sk, so⟩ := sub_int h
theorem and_d (h : Q (.int (Builtin.bitAnd a b) sk) ⟨sh, sg, sd, sk + 1, so⟩) : wpAny (model prog w) A (binaryOp .BitAnd (.int a t) (.int b u)) Q E ⟨sh, sg, sd, sk, so⟩ := and_int h
theorem xor_d (h : Q (.int (Builtin.bitXor a b) sk) ⟨sh, sg, sd, sk + 1, so⟩) : wpAny (model prog w) A (binaryOp .BitXor (.int a t) (.int b u)) Q E ⟨sh, sg, sd, sk, so⟩ := xor_int h
theorem rsh_d (hn : 0 ≤ b) (h : Q (.int (a.fdiv (2 ^ b.toNat)) sk) ⟨sh, sg, sd, sk + 1, so⟩) : wpAny (model prog w) A (binaryOp .RShift (.int a t) (.int b u)) Q E ⟨sh, sg, sd, sk, so⟩ := rshift_int hn h
theorem neg_d (h : Q (.int (-a) sk) ⟨sh, sg, sd, sk + 1, so⟩) : wpAny (model prog w) A (unaryOp .USub (.int a t)) Q E ⟨sh, sg, sd, sk, so⟩ := neg_int h
theorem str_d {env : Env} {x : Str} {k : Nat} {pos : Pos} (h : Q (.str x sk) ⟨sh, sg, sd, sk + 1, so⟩) : wpAny (model prog w) A (eval (.Constant (.str x) k pos) env) Q E ⟨sh, sg, sd, sk, so⟩ := Calls.Constant_str h
theorem lsh_d (n : Nat) (h0 : 0 ≤ a) (h1 : a < 9223372036854775808) (hn : n ≤ 1000) (h : Q (.int (a * 2 ^ n) sk) ⟨sh, sg, sd, sk + 1, so⟩) : wpAny (model prog w) A (binaryOp .LShift (.int a t) (.int (n : Nat) u)) Q E ⟨sh, sg, sd, sk, so⟩ := lsh_walk n h0 h1 hn h
theorem or_d (n : Nat) (e : Int) (he : (2 : Int) ^ n = e) (h0 : 0 ≤ a) (h1 : 0 ≤ b) (h2 : b < e) (h : Q (.int (a * 2 ^ n + b) sk) ⟨sh, sg, sd, sk + 1, so⟩) : wpAny (model prog w) A (binaryOp .BitOr (.int (a * 2 ^ n) t) (.int b u)) Q E ⟨sh, sg, sd, sk, so⟩ := or_walk n e he h0 h1 h2 h
theorem or_modd (n : Nat) (e : Int) (he : (2 : Int) ^ n = e) (h0 : 0 ≤ a) (hx : a % e = 0) (h1 : 0 ≤ b) (h2 : b < e) (h : Q (.int (a + b) sk) ⟨sh, sg, sd, sk + 1, so⟩) : wpAny (model prog w) A (binaryOp .BitOr (.int a t) (.int b u)) Q E ⟨sh, sg, sd, sk, so⟩ := or_mod n e he h0 hx h1 h2 h
end
theorem mx_cast (t k : Nat) : ((max 60 (14 + 4 * t + k) + 4 : Nat) : Int) = max 60 (14 + 4 * (t : Int) + (k : Int)) + 4 := by
  show ((max 60 (14 + 4 * t + k) : Nat) : Int) + 4 = _
  rw [Lean.Omega.Int.ofNat_max]
  rfl
theorem mx_ite (a b : Int) : max b a + 4 = (if a > b then a else b) + 4 := by
  by_cases c : a > b
  · rw [if_pos c, Int.max_eq_right (Int.le_of_lt c)]
  · rw [if_neg c, Int.max_eq_left (Int.not_lt.mp c)]
theorem mx_fill (W t k : Nat) (h : (W : Int) = max 60 (14 + 4 * (t : Int) + (k : Int)) + 4) : (if (W : Int) - 18 - 4 * (t : Int) - (k : Int) > 0 then (W : Int) - 18 - 4 * (t : Int) - (k : Int) else 0).toNat = 60 - (14 + 4 * t + k) := by
  rw [← mx_cast] at h
  have h := Int.ofNat.inj h
  subst h
  by_cases c : 60 ≤ 14 + 4 * t + k
  · rw [Nat.max_eq_right c, Nat.sub_eq_zero_of_le c, if_neg (by omega)]
    rfl
  · rw [Nat.max_eq_left (by omega), if_pos (by omega)]
    omega
theorem unrEnd_mono {h₀ : Heap} {L I : Addr} {s₁ s₂ : Shared} {it : Obj} {P R : (Str → Option Value) → List (Addr × Obj) → Prop} (k : ∀ m n, P m n → R m n) (x : UnrEnd h₀ L s₁ I it P s₂) : UnrEnd h₀ L s₁ I it R s₂ := by
  obtain ⟨h', tk', m', news', e1, F', N', ho, q⟩ := x
  exact ⟨h', tk', m', news', e1, F', N', ho, k _ _ q⟩
theorem unrPost_mono {h₀ : Heap} {L I : Addr} {s₁ s₂ : Shared} {it : Obj} {P R : (Str → Option Value) → List (Addr × Obj) → Prop} {Q : Flow → Shared → Prop} (k : ∀ m n, P m n → R m n) : ∀ {f : Flow}, UnrPost h₀ L s₁ I it P Q f s₂ → UnrPost h₀ L s₁ I it R Q f s₂
  | .ret _, y => y
  | .brk, y => y
  | .next, y => unrEnd_mono k y
  | .cont, y => unrEnd_mono k y
theorem unrEndW_mono {h₀ : Heap} {L : Addr} {s₁ s₂ : Shared} {its : List (Addr × Obj)} {P R : (Str → Option Value) → List (Addr × Obj) → Prop} (k : ∀ m n, P m n → R m n) (x : UnrEndW h₀ L s₁ its P s₂) : UnrEndW h₀ L s₁ its R s₂ := by
  obtain ⟨h', tk', m', news', e1, F', N', ho, q⟩ := x
  exact ⟨h', tk', m', news', e1, F', N', ho, k _ _ q⟩
theorem unrPostW_mono {h₀ : Heap} {L : Addr} {s₁ s₂ : Shared} {its : List (Addr × Obj)} {P R : (Str → Option Value) → List (Addr × Obj) → Prop} {Q : Flow → Shared → Prop} (k : ∀ m n, P m n → R m n) : ∀ {f : Flow}, UnrPostW h₀ L s₁ its P Q f s₂ → UnrPostW h₀ L s₁ its R Q f s₂
  | .ret _, y => y
  | .brk, y => y
  | .next, y => unrEndW_mono k y
  | .cont, y => unrEndW_mono k y
theorem cells1 {cm : Str → Option Value} {n1 : Str} {c1 : Addr} {cells : List (Addr × Obj)} (Y : CellsAre cm [(n1, c1)] cells) {G : List (Addr × Obj) → Prop} (h : ∀ o1 : Obj, o1.data = .cell (cm n1) → G [(c1, o1)]) : G cells := by
  obtain ⟨o1, rfl, d1⟩ := CellsAre.one Y
  exact h o1 d1
theorem cells2 {cm : Str → Option Value} {n1 n2 : Str} {c1 c2 : Addr} {cells : List (Addr × Obj)} (Y : CellsAre cm [(n1, c1), (n2, c2)] cells) {G : List (Addr × Obj) → Prop} (h : ∀ o1 o2 : Obj, o1.data = .cell (cm n1) → o2.data = .cell (cm n2) → G [(c1, o1), (c2, o2)]) : G cells := by
  obtain ⟨o1, o2, rfl, d1, d2⟩ := CellsAre.two Y
  exact h o1 o2 d1 d2
theorem cells3 {cm : Str → Option Value} {n1 n2 n3 : Str} {c1 c2 c3 : Addr} {cells : List (Addr × Obj)} (Y : CellsAre cm [(n1, c1), (n2, c2), (n3, c3)] cells) {G : List (Addr × Obj) → Prop} (h : ∀ o1 o2 o3 : Obj, o1.data = .cell (cm n1) → o2.data = .cell (cm n2) → o3.data = .cell (cm n3) → G [(c1, o1), (c2, o2), (c3, o3)]) : G cells := by
  obtain ⟨o1, o2, o3, rfl, d1, d2, d3⟩ := CellsAre.three Y
  exact h o1 o2 o3 d1 d2 d3
theorem cells4 {cm : Str → Option Value} {n1 n2 n3 n4 : Str} {c1 c2 c3 c4 : Addr} {cells : List (Addr × Obj)} (Y : CellsAre cm [(n1, c1), (n2, c2), (n3, c3), (n4, c4)] cells) {G : List (Addr × Obj) → Prop} (h : ∀ o1 o2 o3 o4 : Obj, o1.data = .cell (cm n1) → o2.data = .cell (cm n2) → o3.data = .cell (cm n3) → o4.data = .cell (cm n4) → G [(c1, o1), (c2, o2), (c3, o3), (c4, o4)]) : G cells := by
  obtain ⟨o1, o2, o3, o4, rfl, d1, d2, d3, d4⟩ := CellsAre.four Y
  exact h o1 o2 o3 o4 d1 d2 d3 d4
theorem cells5 {cm : Str → Option Value} {n1 n2 n3 n4 n5 : Str} {c1 c2 c3 c4 c5 : Addr} {cells : List (Addr × Obj)} (Y : CellsAre cm [(n1, c1), (n2, c2), (n3, c3), (n4, c4), (n5, c5)] cells) {G : List (Addr × Obj) → Prop} (h : ∀ o1 o2 o3 o4 o5 : Obj, o1.data = .cell (cm n1) → o2.data = .cell (cm n2) → o3.data = .cell (cm n3) → o4.data = .cell (cm n4) → o5.data = .cell (cm n5) → G [(c1, o1), (c2, o2), (c3, o3), (c4, o4), (c5, o5)]) : G cells := by
  obtain ⟨o1, o2, o3, o4, o5, rfl, d1, d2, d3, d4, d5⟩ := kc_five Y
  exact h o1 o2 o3 o4 o5 d1 d2 d3 d4 d5
theorem nz {a b : Nat} (k : Nat) (h : a < b) : b + k ≠ a := Nat.ne_of_gt (Nat.lt_of_lt_of_le h (Nat.le_add_right b k))
theorem nw {a b : Nat} (k : Nat) (h : a < b) : a ≠ b + k := Nat.ne_of_lt (Nat.lt_of_lt_of_le h (Nat.le_add_right b k))
theorem nq {a : Nat} (k : Nat) : a ≠ a + (k + 1) := Nat.ne_of_lt (Nat.lt_of_lt_of_le (Nat.lt_succ_self a) (Nat.add_le_add_left (Nat.le_add_left 1 k) a))
theorem np {a : Nat} (k : Nat) : a + (k + 1) ≠ a := (nq k).symm
theorem offc {a sa : Addr} {o : Obj} {l : List (Addr × Obj)} (h : a ≠ sa) (t : ∀ p ∈ l, p.1 ≠ sa) : ∀ p ∈ (a, o) :: l, p.1 ≠ sa :=
  List.forall_mem_cons.mpr ⟨h, t⟩
theorem memT {α : Type} {a b : α} {l : List α} (h : a ∈ l) : a ∈ b :: l := List.mem_cons_of_mem b h
section
variable {prog : Program} {w : World} {p : Program} {loose : List Str} {mean : ExcName → Option Value} {mg mb : Str → Option Value} {base : Heap} {dn un' : Nat} {f : Addr} {vs : List Value} {news : List (Addr × Obj)} {Post : Value → List (Addr × Obj) → Prop} {PE : Value → Prop}
variable {A A₀ : Around} {h₀ : Heap} {outer : List Env} {L : Addr} {m : Str → Option Value} {env : Env} {s : Shared} {R : Result → Shared → Prop} {K : Frag}
theorem con_defQ {name qual : Str} {params : Arguments} {body : List Stmt} {scope : Scope} {cl : List (Str × Addr)} {dV kV doc pm cdv ct oc : Value} {an od : Option Addr} {osl : Array (Option Value)} {binds : List (Str × Value)}
    (XB : (Lw.head.heap_1 w.params).In base) (TB : Top p loose mean mg mb base)
    (ho : (Lw.head.heap_1 w.params).lookup f = some ⟨oc, od, .func (fnX name qual params body scope cl dV kV doc pm an cdv ct), osl⟩) (hcd : codeIn (Lw.head.heap_1 w.params) cdv qual = true)
    (hbind : ∀ s : Shared, (Lw.head.heap_1 w.params).In s.heap → BindsTo s (fnX name qual params body scope cl dV kV doc pm an cdv ct) ⟨vs, []⟩ binds) (hloc : ∀ y ∈ binds, scope.names.lookup y.1 = some .local) (hdn : 1 ≤ dn)
    (h : ∀ (dp un : Nat) (gd : Option (List Code)) (l : List Env) (sh : Heap) (sg : Array GenState) (sd : Drawn) (sk : Nat) (so : OsState) (g : Heap) (L' : Addr) (h₁ : Heap) (Q1 : Flow → Shared → Prop) (E1 : Value → Shared → Prop), dp + dn < recursionLimit → un + un' < cLine → Anc sh g news → Fr g L' h₁ (fun y => binds.reverse.lookup y) → News g L' h₁ news → (∀ p ∈ news, p.1 < L') → Below (At dp un gd l) base l g →
      KtsDicts (frs l) g → (Lw.head.heap_1 w.params).In g → Top p loose mean mg mb g → KtsTurn (frs l) g g →
      OQ (fun fl s' => EndS g (⟨sh, sg, sd, sk, so⟩ : Shared) Post (match fl with | .ret v => v | _ => .none) s') Q1 → EQ9 E1 (fun e s' => wpAny (model PySem.Challenge.pw_pf0385_01 w) ((At dp un gd l).deeper (envX qual scope L' f cdv cl)) (leaving (envX qual scope L' f cdv cl) e) (fun _ s'' => EscC base l (⟨sh, sg, sd, sk, so⟩ : Shared) PE e s'') (fun e' s'' => EscC base l (⟨sh, sg, sd, sk, so⟩ : Shared) PE e' s'') s') →
      wpAny (model PySem.Challenge.pw_pf0385_01 w) ((At dp un gd l).deeper (envX qual scope L' f cdv cl)) (execs body (envX qual scope L' f cdv cl)) Q1 E1 ⟨h₁, sg, sd, sk + binds.length, so⟩)
    (hcell : ∀ x ∈ scope.names, x.2 ≠ .cell) (hco : scope.isCoroutine = false) (hgen : scope.isGenerator = false) (hk : scope.kind = .function) : Con w base dn un' f vs news Post PE :=
  con_def XB TB ho hcd hbind hloc hdn (fun dp un gd l s g L' h₁ a1 a2 a3 a4 a5 a6 a7 a8 a9 a10 a11 => opq (fun Q1 E1 hQ hE => h dp un gd l s.heap s.gens s.drawn s.toks s.os g L' h₁ Q1 E1 a1 a2 a3 a4 a5 a6 a7 a8 a9 a10 a11 hQ hE)) hcell hco hgen hk
end
section
variable {prog : Program} {w : World} {p : Program} {loose : List Str} {mean : ExcName → Option Value} {mg mb : Str → Option Value} {base : Heap} {dn un' : Nat} {f : Addr} {vs : List Value} {news : List (Addr × Obj)} {Post : Value → List (Addr × Obj) → Prop} {PE : Value → Prop}
variable {A A₀ : Around} {h₀ : Heap} {outer : List Env} {L : Addr} {m : Str → Option Value} {env : Env} {s : Shared} {R : Result → Shared → Prop} {K : Frag}
theorem con_defCQ {name qual : Str} {params : Arguments} {body : List Stmt} {scope : Scope} {dV kV doc pm cdv ct oc : Value} {an od : Option Addr} {osl : Array (Option Value)} {binds : List (Str × Value)}
    (XB : (Lw.head.heap_1 w.params).In base) (TB : Top p loose mean mg mb base)
    (ho : (Lw.head.heap_1 w.params).lookup f = some ⟨oc, od, .func (fnX name qual params body scope [] dV kV doc pm an cdv ct), osl⟩) (hcd : codeIn (Lw.head.heap_1 w.params) cdv qual = true)
    (hbind : ∀ s : Shared, (Lw.head.heap_1 w.params).In s.heap → BindsTo s (fnX name qual params body scope [] dV kV doc pm an cdv ct) ⟨vs, []⟩ binds)
    (hkind : (binds.all fun y => scope.names.lookup y.1 == some .local || scope.names.lookup y.1 == some .cell) = true) (hnd : ((cellsFrom 0 scope.names []).map (·.1)).Nodup) (hdn : 1 ≤ dn)
    (h : ∀ (dp un : Nat) (gd : Option (List Code)) (l : List Env) (sh : Heap) (sg : Array GenState) (sd : Drawn) (sk : Nat) (so : OsState) (g : Heap) (L' : Addr) (h₁ : Heap) (tk : Nat) (cells : List (Addr × Obj)) (Q1 : Flow → Shared → Prop) (E1 : Value → Shared → Prop), dp + dn < recursionLimit → un + un' < cLine → Anc sh g news →
      Fr g L' h₁ (bindL (envOfC qual scope L' f cdv).kindOf binds fun _ => none) → News g L' h₁ (cells ++ news) → CellsAre (bindC (envOfC qual scope L' f cdv).kindOf binds fun _ => none) (cellsFrom (L' + 1) scope.names []) cells → (∀ p ∈ news, p.1 < L') →
      Below (At dp un gd l) base l g → KtsDicts (frs l) g → (Lw.head.heap_1 w.params).In g → Top p loose mean mg mb g → KtsTurn (frs l) g g →
      OQ (fun fl s' => EndS g (⟨sh, sg, sd, sk, so⟩ : Shared) Post (match fl with | .ret v => v | _ => .none) s') Q1 → EQ9 E1 (fun e s' => wpAny (model PySem.Challenge.pw_pf0385_01 w) ((At dp un gd l).deeper (envOfC qual scope L' f cdv)) (leaving (envOfC qual scope L' f cdv) e) (fun _ s'' => EscC base l (⟨sh, sg, sd, sk, so⟩ : Shared) PE e s'') (fun e' s'' => EscC base l (⟨sh, sg, sd, sk, so⟩ : Shared) PE e' s'') s') →
      wpAny (model PySem.Challenge.pw_pf0385_01 w) ((At dp un gd l).deeper (envOfC qual scope L' f cdv)) (execs body (envOfC qual scope L' f cdv)) Q1 E1 ⟨h₁, sg, sd, tk, so⟩)
    (hco : scope.isCoroutine = false) (hgen : scope.isGenerator = false) (hk : scope.kind = .function) : Con w base dn un' f vs news Post PE :=
  con_defC XB TB ho hcd hbind hkind hnd hdn (fun dp un gd l s g L' h₁ tk cells a1 a2 a3 a4 a5 a6 a7 a8 a9 a10 a11 a12 => opq (fun Q1 E1 hQ hE => h dp un gd l s.heap s.gens s.drawn s.toks s.os g L' h₁ tk cells Q1 E1 a1 a2 a3 a4 a5 a6 a7 a8 a9 a10 a11 a12 hQ hE)) hco hgen hk
end
section
variable {w : World} {p : Program} {loose : List Str} {mean : ExcName → Option Value} {mg mb : Str → Option Value} {base : Heap} {dn un' : Nat} {f : Addr} {vs : List Value} {news : List (Addr × Obj)} {Post : Value → List (Addr × Obj) → Prop} {PE : Value → Prop}
theorem conT_defQ {name qual : Str} {params : Arguments} {body : List Stmt} {scope : Scope} {cl : List (Str × Addr)} {dV kV doc pm cdv ct oc : Value} {an od : Option Addr} {osl : Array (Option Value)} {binds : List (Str × Value)}
    (XB : (Lw.head.heap_1 w.params).In base) (TB : Top p loose mean mg mb base)
    (ho : (Lw.head.heap_1 w.params).lookup f = some ⟨oc, od, .func (fnX name qual params body scope cl dV kV doc pm an cdv ct), osl⟩) (hcd : codeIn (Lw.head.heap_1 w.params) cdv qual = true)
    (hbind : ∀ s : Shared, (Lw.head.heap_1 w.params).In s.heap → BindsTo s (fnX name qual params body scope cl dV kV doc pm an cdv ct) ⟨vs, []⟩ binds) (hloc : ∀ y ∈ binds, scope.names.lookup y.1 = some .local) (hdn : 1 ≤ dn)
    (h : ∀ (dp un : Nat) (gd : Option (List Code)) (l : List Env) (sh : Heap) (sg : Array GenState) (sd : Drawn) (sk : Nat) (so : OsState) (g : Heap) (L' : Addr) (h₁ : Heap) (Q1 : Flow → Shared → Prop) (E1 : Value → Shared → Prop), dp + dn < recursionLimit → un + un' < cLine → Anc sh g news → Fr g L' h₁ (fun y => binds.reverse.lookup y) → News g L' h₁ news → (∀ p ∈ news, p.1 < L') → Below (At dp un gd l) base l g →
      KtsDicts (frs l) g → (Lw.head.heap_1 w.params).In g → Top p loose mean mg mb g → KtsTurn (frs l) g g →
      OQ (fun fl s' => EndC (frs l) g (⟨sh, sg, sd, sk, so⟩ : Shared) Post (match fl with | .ret v => v | _ => .none) s') Q1 → EQ9 E1 (fun e s' => wpAny (model PySem.Challenge.pw_pf0385_01 w) ((At dp un gd l).deeper (envX qual scope L' f cdv cl)) (leaving (envX qual scope L' f cdv cl) e) (fun _ s'' => EscC base l (⟨sh, sg, sd, sk, so⟩ : Shared) PE e s'') (fun e' s'' => EscC base l (⟨sh, sg, sd, sk, so⟩ : Shared) PE e' s'') s') →
      wpAny (model PySem.Challenge.pw_pf0385_01 w) ((At dp un gd l).deeper (envX qual scope L' f cdv cl)) (execs body (envX qual scope L' f cdv cl)) Q1 E1 ⟨h₁, sg, sd, sk + binds.length, so⟩)
    (hcell : ∀ x ∈ scope.names, x.2 ≠ .cell) (hco : scope.isCoroutine = false) (hgen : scope.isGenerator = false) (hk : scope.kind = .function) : ConT w base dn un' f vs news Post PE :=
  conT_def XB TB ho hcd hbind hloc hdn (fun dp un gd l s g L' h₁ a1 a2 a3 a4 a5 a6 a7 a8 a9 a10 a11 => opq (fun Q1 E1 hQ hE => h dp un gd l s.heap s.gens s.drawn s.toks s.os g L' h₁ Q1 E1 a1 a2 a3 a4 a5 a6 a7 a8 a9 a10 a11 hQ hE)) hcell hco hgen hk
end
section
variable {w : World} {p : Program} {loose : List Str} {mean : ExcName → Option Value} {mg mb : Str → Option Value} {base : Heap} {dn un' : Nat} {f : Addr} {vs : List Value} {news : List (Addr × Obj)} {Post : Value → List (Addr × Obj) → Prop} {PE : Value → Prop}
theorem conT_defCQ {name qual : Str} {params : Arguments} {body : List Stmt} {scope : Scope} {dV kV doc pm cdv ct oc : Value} {an od : Option Addr} {osl : Array (Option Value)} {binds : List (Str × Value)}
    (XB : (Lw.head.heap_1 w.params).In base) (TB : Top p loose mean mg mb base)
    (ho : (Lw.head.heap_1 w.params).lookup f = some ⟨oc, od, .func (fnX name qual params body scope [] dV kV doc pm an cdv ct), osl⟩) (hcd : codeIn (Lw.head.heap_1 w.params) cdv qual = true)
    (hbind : ∀ s : Shared, (Lw.head.heap_1 w.params).In s.heap → BindsTo s (fnX name qual params body scope [] dV kV doc pm an cdv ct) ⟨vs, []⟩ binds)
    (hkind : (binds.all fun y => scope.names.lookup y.1 == some .local || scope.names.lookup y.1 == some .cell) = true) (hnd : ((cellsFrom 0 scope.names []).map (·.1)).Nodup) (hdn : 1 ≤ dn)
    (h : ∀ (dp un : Nat) (gd : Option (List Code)) (l : List Env) (sh : Heap) (sg : Array GenState) (sd : Drawn) (sk : Nat) (so : OsState) (g : Heap) (L' : Addr) (h₁ : Heap) (tk : Nat) (cells : List (Addr × Obj)) (Q1 : Flow → Shared → Prop) (E1 : Value → Shared → Prop), dp + dn < recursionLimit → un + un' < cLine → Anc sh g news →
      Fr g L' h₁ (bindL (envOfC qual scope L' f cdv).kindOf binds fun _ => none) → News g L' h₁ (cells ++ news) → CellsAre (bindC (envOfC qual scope L' f cdv).kindOf binds fun _ => none) (cellsFrom (L' + 1) scope.names []) cells → (∀ p ∈ news, p.1 < L') →
      Below (At dp un gd l) base l g → KtsDicts (frs l) g → (Lw.head.heap_1 w.params).In g → Top p loose mean mg mb g → KtsTurn (frs l) g g →
      OQ (fun fl s' => EndC (frs l) g (⟨sh, sg, sd, sk, so⟩ : Shared) Post (match fl with | .ret v => v | _ => .none) s') Q1 → EQ9 E1 (fun e s' => wpAny (model PySem.Challenge.pw_pf0385_01 w) ((At dp un gd l).deeper (envOfC qual scope L' f cdv)) (leaving (envOfC qual scope L' f cdv) e) (fun _ s'' => EscC base l (⟨sh, sg, sd, sk, so⟩ : Shared) PE e s'') (fun e' s'' => EscC base l (⟨sh, sg, sd, sk, so⟩ : Shared) PE e' s'') s') →
      wpAny (model PySem.Challenge.pw_pf0385_01 w) ((At dp un gd l).deeper (envOfC qual scope L' f cdv)) (execs body (envOfC qual scope L' f cdv)) Q1 E1 ⟨h₁, sg, sd, tk, so⟩)
    (hco : scope.isCoroutine = false) (hgen : scope.isGenerator = false) (hk : scope.kind = .function) : ConT w base dn un' f vs news Post PE :=
  conT_defC XB TB ho hcd hbind hkind hnd hdn (fun dp un gd l s g L' h₁ tk cells a1 a2 a3 a4 a5 a6 a7 a8 a9 a10 a11 a12 => opq (fun Q1 E1 hQ hE => h dp un gd l s.heap s.gens s.drawn s.toks s.os g L' h₁ tk cells Q1 E1 a1 a2 a3 a4 a5 a6 a7 a8 a9 a10 a11 a12 hQ hE)) hco hgen hk
end
section
variable {w : World} {p : Program} {loose : List Str} {mean : ExcName → Option Value} {mg mb : Str → Option Value} {base : Heap} {dn un' : Nat} {C fI : Addr} {vs : List Value} {news : List (Addr × Obj)} {Post : Value → List (Addr × Obj) → Prop} {PE : Value → Prop}
theorem con_classQ {name qual : Str} {params : Arguments} {body : List Stmt} {scope : Scope} {cl : List (Str × Addr)} {dV kV doc pm cdv ct oc : Value} {an od : Option Addr} {osl : Array (Option Value)} {binds : Addr → List (Str × Value)}
    (XB : (Lw.head.heap_1 w.params).In base) (TB : Top p loose mean mg mb base)
    (hm : makesIn (Lw.head.heap_1 w.params) C = true) (hi : findIn (Lw.head.heap_1 w.params) (.ref C) "__init__" = some (some (.ref fI))) (hf : isFn (Lw.head.heap_1 w.params) (.ref fI) = true)
    (ho : (Lw.head.heap_1 w.params).lookup fI = some ⟨oc, od, .func (fnX name qual params body scope cl dV kV doc pm an cdv ct), osl⟩) (hcd : codeIn (Lw.head.heap_1 w.params) cdv qual = true)
    (hbind : ∀ (x : Addr) (s : Shared), (Lw.head.heap_1 w.params).In s.heap → BindsTo s (fnX name qual params body scope cl dV kV doc pm an cdv ct) ⟨.ref x :: vs, []⟩ (binds x)) (hloc : ∀ x, ∀ y ∈ binds x, scope.names.lookup y.1 = some .local) (hdn : 5 ≤ dn)
    (h : ∀ (dp un : Nat) (gd : Option (List Code)) (l : List Env) (sh : Heap) (sg : Array GenState) (sd : Drawn) (sk : Nat) (so : OsState) (g : Heap) (L' : Addr) (h₁ : Heap) (x dx : Addr) (Q1 : Flow → Shared → Prop) (E1 : Value → Shared → Prop), dp + dn < recursionLimit → un + un' < cLine → Anc sh g ((x, instObj C dx) :: (dx, dictOf [] 0) :: news) → Fr g L' h₁ (fun y => (binds x).reverse.lookup y) → News g L' h₁ ((x, instObj C dx) :: (dx, dictOf [] 0) :: news) →
      (∀ p ∈ news, p.1 < dx) → dx < x → x < L' → Below ((At dp un gd l).under (.builtin "type.__call__" ⟨.ref C :: vs, []⟩)) base l g →
      KtsDicts (frs l) g → (Lw.head.heap_1 w.params).In g → Top p loose mean mg mb g → KtsTurn (frs l) g g →
      OQ (fun fl s' => EndS g (⟨sh, sg, sd, sk, so⟩ : Shared) (fun r news' => r = .none ∧ Post (.ref x) news') (match fl with | .ret v => v | _ => .none) s') Q1 → EQ9 E1 (fun e s' => wpAny (model PySem.Challenge.pw_pf0385_01 w) (((At dp un gd l).under (.builtin "type.__call__" ⟨.ref C :: vs, []⟩)).deeper (envX qual scope L' fI cdv cl)) (leaving (envX qual scope L' fI cdv cl) e) (fun _ s'' => EscC base l (⟨sh, sg, sd, sk, so⟩ : Shared) (fun _ => False) e s'') (fun e' s'' => EscC base l (⟨sh, sg, sd, sk, so⟩ : Shared) (fun _ => False) e' s'') s') →
      wpAny (model PySem.Challenge.pw_pf0385_01 w) (((At dp un gd l).under (.builtin "type.__call__" ⟨.ref C :: vs, []⟩)).deeper (envX qual scope L' fI cdv cl)) (execs body (envX qual scope L' fI cdv cl)) Q1 E1 ⟨h₁, sg, sd, sk + (binds x).length, so⟩)
    (hcell : ∀ x ∈ scope.names, x.2 ≠ .cell) (hco : scope.isCoroutine = false) (hgen : scope.isGenerator = false) (hk : scope.kind = .function) : Con w base dn un' C vs news Post PE :=
  con_class XB TB hm hi hf ho hcd hbind hloc hdn (fun dp un gd l s g L' h₁ x dx a1 a2 a3 a4 a5 a6 a7 a8 a9 a10 a11 a12 a13 => opq (fun Q1 E1 hQ hE => h dp un gd l s.heap s.gens s.drawn s.toks s.os g L' h₁ x dx Q1 E1 a1 a2 a3 a4 a5 a6 a7 a8 a9 a10 a11 a12 a13 hQ hE)) hcell hco hgen hk
end
section
variable {prog : Program} {w : World} {p : Program} {loose : List Str} {mean : ExcName → Option Value} {mg mb : Str → Option Value} {base : Heap} {dn un' : Nat} {f : Addr} {vs : List Value} {news : List (Addr × Obj)} {Post : Value → List (Addr × Obj) → Prop} {PE : Value → Prop}
theorem con_lamQ {name qual : Str} {params : Arguments} {body : PySem.Expr} {scope : Scope} {cl : List (Str × Addr)} {pm ctv : Value} {c' : Addr} {binds : List (Str × Value)}
    (XB : (Lw.head.heap_1 w.params).In base) (TB : Top p loose mean mg mb base)
    (ho : (f, kla_obj name qual params body scope cl pm c' ctv) ∈ news) (hrec : RecIn qual c' news)
    (hbind : bindArgs (kla_fn name qual params body scope cl pm (.ref c') ctv) ⟨vs, []⟩ = pure binds) (hloc : ∀ y ∈ binds, scope.names.lookup y.1 = some .local) (hdn : 1 ≤ dn)
    (h : ∀ (dp un : Nat) (gd : Option (List Code)) (l : List Env) (sh : Heap) (sg : Array GenState) (sd : Drawn) (sk : Nat) (so : OsState) (g : Heap) (L' : Addr) (h₁ : Heap) (Q1 : Value → Shared → Prop) (E1 : Value → Shared → Prop), dp + dn < recursionLimit → un + un' < cLine → Anc sh g news → Fr g L' h₁ (fun y => binds.reverse.lookup y) → News g L' h₁ news → (∀ p ∈ news, p.1 < L') → Below (At dp un gd l) base l g →
      KtsDicts (frs l) g → (Lw.head.heap_1 w.params).In g → Top p loose mean mg mb g → KtsTurn (frs l) g g →
      OQ (fun v s' => EndS g (⟨sh, sg, sd, sk, so⟩ : Shared) Post v s') Q1 → EQ9 E1 (fun e s' => wpAny (model PySem.Challenge.pw_pf0385_01 w) ((At dp un gd l).deeper (envX qual scope L' f (.ref c') cl)) (leaving (envX qual scope L' f (.ref c') cl) e) (fun _ s'' => EscC base l (⟨sh, sg, sd, sk, so⟩ : Shared) PE e s'') (fun e' s'' => EscC base l (⟨sh, sg, sd, sk, so⟩ : Shared) PE e' s'') s') →
      wpAny (model PySem.Challenge.pw_pf0385_01 w) ((At dp un gd l).deeper (envX qual scope L' f (.ref c') cl)) (eval body (envX qual scope L' f (.ref c') cl)) Q1 E1 ⟨h₁, sg, sd, sk + binds.length, so⟩)
    (hcell : ∀ x ∈ scope.names, x.2 ≠ .cell) (hco : scope.isCoroutine = false) (hgen : scope.isGenerator = false) (hk : scope.kind = .function) : Con w base dn un' f vs news Post PE :=
  con_lam XB TB ho hrec hbind hloc hdn (fun dp un gd l s g L' h₁ a1 a2 a3 a4 a5 a6 a7 a8 a9 a10 a11 => opq (fun Q1 E1 hQ hE => h dp un gd l s.heap s.gens s.drawn s.toks s.os g L' h₁ Q1 E1 a1 a2 a3 a4 a5 a6 a7 a8 a9 a10 a11 hQ hE)) hcell hco hgen hk
end
end Lw
end
section
open PySem PySem.Spec PySem.W PySem.Calls PyProof.Rows
set_option maxRecDepth 100000
set_option maxHeartbeats 1000000
set_option linter.unusedVariables false
set_option pp.deepTerms false
set_option pp.maxSteps 2000
set_option hygiene false
namespace Lw
local macro_rules | `(tactic| walk_at "exec Raise some none") => `(tactic| (k_here; k_dflt (first
  | ((with_reducible show wpAny _ _ (exec (Stmt.Raise (some (Expr.Call (Expr.Name ("SizeError" : Str) _) (_ :: _) [] _)) none _) _) _ _ _); (refine' raise_walk own_size ?hh ?_ ?he ?hp; (case hh => rfl); (case he => rfl); (case hp => rfl); k_whole))
  | ((with_reducible show wpAny _ _ (exec (Stmt.Raise (some (Expr.Call (Expr.Name ("FormError" : Str) _) (_ :: _) [] _)) none _) _) _ _ _); (refine' raise_walk own_form ?hh ?_ ?he ?hp; (case hh => rfl); (case he => rfl); (case hp => rfl); k_whole)))))
local macro_rules | `(tactic| walk_at "And") => `(tactic| ((with_reducible show Value.ref _ = Value.ref _ ∧ _); refine ⟨rfl, ?_⟩))
local macro_rules | `(tactic| walk_at "call ref") => `(tactic| (k_here; k_dflt (first
  | ((with_reducible show wpAny _ _ (call (Value.ref 163) _) _ _ _); (refine' raise_end2 own_size (by first | exact fun _ _ x => x | (rename EQ9 _ _ => hE9; exact EQ9.pass hE9)) (by assumption) (by assumption) (by assumption) (by assumption) (by k_asm) (by k_asm) (by assumption) (by assumption) rfl ?sub rfl rfl rfl rfl ?room ?pe; (case sub => intro _ hq; repeat (first | exact hq | refine List.mem_cons_of_mem _ ?_)); (case room => dsimp only [Around.deeper, At]; first | exact dstep1 (by assumption) rfl | exact dstep (by assumption) rfl | omega); (case pe => first | rfl | assumption | exact ⟨rfl, by omega⟩)))
  | ((with_reducible show wpAny _ _ (call (Value.ref 151) _) _ _ _); (refine' raise_end2 own_form (by first | exact fun _ _ x => x | (rename EQ9 _ _ => hE9; exact EQ9.pass hE9)) (by assumption) (by assumption) (by assumption) (by assumption) (by k_asm) (by k_asm) (by assumption) (by assumption) rfl ?sub rfl rfl rfl rfl ?room ?pe; (case sub => intro _ hq; repeat (first | exact hq | refine List.mem_cons_of_mem _ ?_)); (case room => dsimp only [Around.deeper, At]; first | exact dstep1 (by assumption) rfl | exact dstep (by assumption) rfl | omega); (case pe => first | rfl | assumption | exact ⟨rfl, by omega⟩)))
  | (refine stop_lit rfl ?_))))
local macro_rules | `(tactic| walk_at "ite") => `(tactic| (k_here; (with_reducible show ite ((!decide (_ < (1 : Int) * 2 ^ _)) = true) _ _); k_dflt (first
  | (refine ite_pos (by simp only [Bool.not_eq_true', decide_eq_false_iff_not, Int.reduceMul, Int.reduceToNat, Int.reducePow]; omega) ?_)
  | (refine ite_neg (by simp only [Bool.not_eq_true', decide_eq_false_iff_not, Int.reduceMul, Int.reduceToNat, Int.reducePow]; omega) ?_))))
local macro_rules | `(tactic| walk_at "eval ListComp") => `(tactic| (k_here; (with_reducible show wpAny _ _ (eval (Expr.ListComp _ [⟨_, Expr.Call (Expr.Name "range" _) _ _ _, [], 0⟩] _ _) _) _ _ _); k_dflt (refine ListComp_D (F₀ := by k_asm) (by rfl) (by decide) (by rfl) (by decide) (by rfl) ?_)))
local macro_rules | `(tactic| walk_at "SrcD") => `(tactic| (k_here; k_dflt (refine SrcD.range (by rfl) (by k_asm) (by k_asm) (by assumption) (by first | decide | rfl) (by first | rfl | decide) (by first | size_fits | exact Nat.le_of_ble_eq_true rfl) ?_; intro g'; lcg_lit)))
local macro_rules | `(tactic| walk_at "CompEnd") => `(tactic| (k_here; k_dflt (refine LCg.CompEnd.intro (by k_asm) (by k_asm) _ (fun _ h => h) (by first | assumption | (simp only [LCg.Off3, and_true]; assumption) | (refine And.intro ⟨by k_ne, by k_ne, by k_ne⟩ ?_; first | assumption | (simp only [LCg.Off3, and_true]; assumption))) (by first | exact True.intro | exact ⟨_, by k_mem⟩) ?_); (try dsimp only)))
local macro_rules | `(tactic| walk_at "binaryOp BitAnd int int") => `(tactic| refine and_d ?_)
local macro_rules | `(tactic| walk_at "binaryOp RShift int int") => `(tactic| (k_here; (refine rsh_d ?kb1 ?_); (case kb1 => omega)))
local macro_rules | `(tactic| walk_at "call type:bytes") => `(tactic| (refine stop_ ?_))
local macro_rules | `(tactic| walk_at "binaryOp LShift int int") => `(tactic| (k_here; k_dflt (first
  | ((with_reducible show wpAny _ _ (binaryOp Operator.LShift (Value.int _ _) (Value.int 8 _)) _ _ _); (refine lsh_d 8 (by omega) (by omega) (by decide) ?_))
  | ((with_reducible show wpAny _ _ (binaryOp Operator.LShift (Value.int _ _) (Value.int 12 _)) _ _ _); (refine lsh_d 12 (by omega) (by omega) (by decide) ?_))
  | ((with_reducible show wpAny _ _ (binaryOp Operator.LShift (Value.int _ _) (Value.int 13 _)) _ _ _); (refine lsh_d 13 (by omega) (by omega) (by decide) ?_)))))
local macro_rules | `(tactic| walk_at "binaryOp BitOr int int") => `(tactic| (k_here; k_dflt (first
  | ((with_reducible show wpAny _ _ (binaryOp Operator.BitOr (Value.int (_ * 2 ^ 8) _) (Value.int _ _)) _ _ _); (refine or_d 8 256 (by decide) (by omega) (by omega) (by omega) ?_))
  | (refine or_d 13 8192 (by decide) (by omega) (by omega) (by omega) (by omega) ?_) | (refine or_d 12 4096 (by decide) (by omega) (by omega) (by omega) (by omega) ?_))))
local macro_rules | `(tactic| k_room) => `(tactic| ((try simp only [depth_mark, depth_under_make, depth_under_kw, depth_in1, depth_deeper, depth_caller]); (try dsimp only [Around.deeper, At]); omega))
local macro_rules | `(tactic| k_all) => `(tactic| first | with_reducible assumption | exact all_of_lt (by assumption) (by first | exact Nat.le_add_right _ 1 | exact Nat.le_add_right _ 2 | exact Nat.le_add_right _ 3 | exact Nat.le_add_right _ 4 | exact Nat.le_add_right _ 5 | omega))
local macro_rules | `(tactic| walk_at "UnrEnd") => `(tactic| (k_here; (refine ⟨_, _, _, _, rfl, by k_asm, by k_asm, ?ho, ?_⟩); (case ho => exact fun q hq => Nat.ne_of_lt ((by assumption : ∀ p ∈ _, p.1 < _) q hq))))
local macro_rules | `(tactic| walk_at "pyIter bytes") => `(tactic| (refine stop_ ?_))
local macro_rules | `(tactic| walk_at "exec For Name Subscript cons nil") => `(tactic| (k_here; (rename Fr _ _ _ _ => lF'); (with_unfolding_all refine' For_invVF lF' ?k1 ?k2 ?_; (case k1 => exact rfl); (case k2 => exact rfl); k_whole)))
local macro_rules | `(tactic| walk_at "exec For Name Name cons nil") => `(tactic| (k_here; (rename Fr _ _ _ _ => lF'); (with_unfolding_all refine' For_invVF lF' ?k1 ?k2 ?_; (case k1 => exact rfl); (case k2 => exact rfl); k_whole)))
local macro_rules | `(tactic| k_steps) => `(tactic| repeat' (first | (k_unfold; (try dsimp only)) | (k_end; (with_reducible refine OQ.use (by assumption) ?_); (try dsimp only)) | (k_end; kc_close) | walk1 | (dsimp only; walk1) | (leave1; walk_say "STEP leave1"; (try dsimp only)) | fail "no step"))
local macro_rules | `(tactic| walk_at "execs cons") => `(tactic| (k_here; first | k_gentoks | (k_made; walk_at "execs cons") | ((with_reducible refine wpAny_execs_cons ?_); (try dsimp only); (refine opk (fun K9 hK9 => ?_)))))
local macro_rules | `(tactic| passes_own) => `(tactic| ((rename EQ9 _ _ => hE9); (refine EQ9.own hE9 ?_); passes_own))
local macro_rules | `(tactic| omega) => `(tactic| first | decide | (with_reducible assumption) | ((with_reducible first | show _ < cLine | show _ < recursionLimit); (with_reducible first | refine dstepk (by assumption) ?_ | refine dstep (by assumption) ?_ | refine dstep1 (by assumption) ?_); exact rfl))
local macro_rules | `(tactic| walk_at "eval Constant int") => `(tactic| refine const_d ?_)
local macro_rules | `(tactic| walk_at "eval Constant str") => `(tactic| refine str_d ?_)
local macro_rules | `(tactic| walk_at "binaryOp Add int int") => `(tactic| refine add_d ?_)
local macro_rules | `(tactic| walk_at "binaryOp Sub int int") => `(tactic| refine sub_d ?_)
local macro_rules | `(tactic| walk_at "binaryOp BitXor int int") => `(tactic| refine xor_d ?_)
local macro_rules | `(tactic| walk_at "inplaceOp Add int int") => `(tactic| refine iadd_d ?_)
local macro_rules | `(tactic| walk_at "unaryOp USub int") => `(tactic| refine neg_d ?_)
local macro_rules | `(tactic| k_ne) => `(tactic| focus (refine neN ?_; (try dsimp only); first
  | with_reducible assumption | (with_reducible exact Ne.symm (by assumption)) | decide
  | (refine Nat.ne_of_lt ?_; (iterate 6 (first | done | with_reducible assumption | exact Nat.lt_add_one _ | refine Nat.lt_add_one_of_lt ?_ | (with_reducible (rename _ < _ ∧ _ => h9; first | exact h9.1 | exact h9.2.1 | exact h9.2.2.1 | exact h9.2.2.2.1 | exact h9.2.2.2.2.1 | exact h9.2.2.2.2.2.1 | exact h9.2.2.2.2.2.2.1 | clear h9)))); done) | (refine Nat.ne_of_gt ?_; (iterate 6 (first | done | with_reducible assumption | exact Nat.lt_add_one _ | refine Nat.lt_add_one_of_lt ?_ | (with_reducible (rename _ < _ ∧ _ => h9; first | exact h9.1 | exact h9.2.1 | exact h9.2.2.1 | exact h9.2.2.2.1 | exact h9.2.2.2.2.1 | exact h9.2.2.2.2.2.1 | exact h9.2.2.2.2.2.2.1 | clear h9)))); done)
  | (with_reducible (rename _ ≠ _ ∧ _ => hN9; first | exact hN9.1 | exact hN9.2.1 | exact hN9.2.2.1 | exact hN9.2.2.2.1 | exact hN9.2.2.2.2.1 | exact hN9.2.2.2.2.2.1)) | (with_reducible (rename ((_ ≠ _ ∧ _ ≠ _ ∧ _ ≠ _) ∧ _) => hO9; first | exact hO9.1.1 | exact hO9.1.2.1 | exact hO9.1.2.2 | exact hO9.2.1.1 | exact hO9.2.1.2.1 | exact hO9.2.1.2.2 | exact hO9.2.2.1.1 | exact hO9.2.2.1.2.1 | exact hO9.2.2.1.2.2 | exact hO9.2.2.2.1.1 | exact hO9.2.2.2.1.2.1 | exact hO9.2.2.2.1.2.2 | exact hO9.2.2.2.2.1.1 | exact hO9.2.2.2.2.1.2.1 | exact hO9.2.2.2.2.1.2.2)) | (refine Ne.symm ?_; first | (with_reducible (rename _ ≠ _ ∧ _ => hN9; first | exact hN9.1 | exact hN9.2.1 | exact hN9.2.2.1 | exact hN9.2.2.2.1 | exact hN9.2.2.2.2.1 | exact hN9.2.2.2.2.2.1)) | (with_reducible (rename ((_ ≠ _ ∧ _ ≠ _ ∧ _ ≠ _) ∧ _) => hO9; first | exact hO9.1.1 | exact hO9.1.2.1 | exact hO9.1.2.2 | exact hO9.2.1.1 | exact hO9.2.1.2.1 | exact hO9.2.1.2.2 | exact hO9.2.2.1.1 | exact hO9.2.2.1.2.1 | exact hO9.2.2.1.2.2 | exact hO9.2.2.2.1.1 | exact hO9.2.2.2.1.2.1 | exact hO9.2.2.2.1.2.2 | exact hO9.2.2.2.2.1.1 | exact hO9.2.2.2.2.1.2.1 | exact hO9.2.2.2.2.1.2.2)))
  | omega))
local macro_rules | `(tactic| k_mem) => `(tactic| (with_reducible (repeat (first | exact List.mem_cons_self .. | assumption | refine' List.mem_cons_of_mem _ ?_)); done))
local macro_rules | `(tactic| k_in) => `(tactic| with_reducible (first | assumption | (refine' Frag.In.keeps ?kin1 (Fr.keep (by assumption)); (case kin1 => assumption))))
local macro_rules | `(tactic| walk_at "callWith ref") => `(tactic| (k_here; k_dflt (first
  | (refine' callWith_K ?k1 ?k2 ?_; (case k1 => with_reducible assumption); (case k2 => k_is); k_whole)
  | (refine' callWith_K0 ?k1 ?k2 ?_; (case k1 => k_in); (case k2 => k_is); k_whole))))
section
variable {w : World} {p : Program} {loose : List Str} {mean : ExcName → Option Value} {mg mb : Str → Option Value} {base : Heap} {news : List (Addr × Obj)}
theorem bit255 (x : Int) : 0 ≤ Builtin.bitAnd x 255 ∧ Builtin.bitAnd x 255 < 256 := by
  have := bitAnd_range x (y := 255) (by decide)
  omega
abbrev be2 (n : Int) : List Int := [n / 256 % 256, n % 256]
abbrev be6 (n : Int) : List Int := [n / 1099511627776 % 256, n / 4294967296 % 256, n / 16777216 % 256, n / 65536 % 256, n / 256 % 256, n % 256]
inductive IsB (v : Value) (ks : List Int) : Prop
  | mk (b tk) (f1 : v = .bytes b tk) (f2 : KBw.bInts b = ks)
theorem sub2 {P : List (Addr × Obj)} {a b : Addr × Obj} {g : Heap} {L : Addr} {h : Heap} (N : News g L h (a :: b :: P)) : News g L h P := fun p hp => N p (List.mem_cons_of_mem _ (List.mem_cons_of_mem _ hp))
theorem octet (n : Int) (k : Nat) (e : Int) (h : (2 : Int) ^ k = e) (he : 0 ≤ e) : Builtin.bitAnd (n.fdiv (2 ^ k)) 255 = n / e % 256 := by
  rw [bitAnd_m8, h, Int.fdiv_eq_ediv_of_nonneg _ he]
theorem put2good (XB : (Lw.head.heap_1 w.params).In base) (TB : Top p loose mean mg mb base) (n : Int) (t t2 : Tok) (h0 : 0 ≤ n) (h1 : n < 65536) :
    Con w base 20 100 170 [.int n t, .int 2 t2] news (fun r news' => news' = news ∧ IsB r (be2 n)) (fun _ => False) := by
  w_on
  k_dflt (refine' con_defCQ (binds := [(Str.ofString "number", .int n t), (Str.ofString "many", .int 2 t2)]) XB TB ?ho ?hcd ?hb ?hl ?hnd ?hn ?_ ?c2 ?c3 ?c4)
  case ho => k_is
  case hcd => k_is
  case hb => intro _ _; first | exact BindsTo.of_eq rfl | exact binds_K (by assumption) rfl (by k_is) rfl rfl rfl
  case hl => exact rfl
  case hnd => decide +kernel
  case hn => first | decide | omega
  case c2 => rfl
  case c3 => rfl
  case c4 => rfl
  intro dp un gd l sh9 sg9 sd9 sk9 so9 g L' h' tk' cells' Q1 E1 hdp hun AN F' N' Y' l1 B' D' X' T' TT hQ1 hE1
  revert N'
  first | (k_dflt (refine cells1 (G := fun cc9 => News _ _ _ (cc9 ++ _) → _) Y' ?_); intro oc1 dc1) | (k_dflt (refine cells2 (G := fun cc9 => News _ _ _ (cc9 ++ _) → _) Y' ?_); intro oc1 oc2 dc1 dc2) | (k_dflt (refine cells3 (G := fun cc9 => News _ _ _ (cc9 ++ _) → _) Y' ?_); intro oc1 oc2 oc3 dc1 dc2 dc3) | (k_dflt (refine cells4 (G := fun cc9 => News _ _ _ (cc9 ++ _) → _) Y' ?_); intro oc1 oc2 oc3 oc4 dc1 dc2 dc3 dc4) | (k_dflt (refine cells5 (G := fun cc9 => News _ _ _ (cc9 ++ _) → _) Y' ?_); intro oc1 oc2 oc3 oc4 oc5 dc1 dc2 dc3 dc4 dc5)
  intro N'
  clear Y'
  (try dsimp only [List.cons_append, List.nil_append] at N')
  (try dsimp only)
  (try k_fold)
  (all_goals (repeat ((with_reducible refine OQ.use (by assumption) ?_); (try dsimp only))))
  w_strict (k_steps)
  (all_goals (repeat ((with_reducible refine OQ.use (by assumption) ?_); (try dsimp only))))
  refine Stop.mk ?_
  refine opk (fun K9 hK9 => ?_)
  k_dflt (refine' KBa.make_K ?kbaF2 ?kbaN2 ?kbah2 ?kbal2 ?kbai2 ?kbar2 ?kban2 ?_)
  case kbaF2 => k_asm
  case kbaN2 => k_asm
  case kbah2 => rfl
  case kbal2 => kba_isList
  case kbai2 => kba_listInts
  case kbar2 => (unfold KBa.In; repeat (first | exact List.forall_mem_nil _ | (refine List.forall_mem_cons.mpr ⟨?_, ?_⟩; (first | exact bit255 _ | (dsimp only; omega) | omega))))
  case kban2 => kba_size
  intro h' t' k' F' N' hIn
  (all_goals (repeat ((with_reducible refine OQ.use (by assumption) ?_); (try dsimp only))))
  refine end_c F' (sub2 N') TT ⟨rfl, _, _, rfl, (KBa.ints_make hIn).trans ?_⟩
  unfold be2
  refine congr (congrArg List.cons (octet _ _ _ (by decide) (by decide))) (congrArg (· :: []) ((octet _ _ 1 (by decide) (by decide)).trans (by rw [Int.ediv_one])))
theorem put6good (XB : (Lw.head.heap_1 w.params).In base) (TB : Top p loose mean mg mb base) (n : Int) (t t2 : Tok) (h0 : 0 ≤ n) (h1 : n < 281474976710656) :
    Con w base 20 100 170 [.int n t, .int 6 t2] news (fun r news' => news' = news ∧ IsB r (be6 n)) (fun _ => False) := by
  w_on
  k_dflt (refine' con_defCQ (binds := [(Str.ofString "number", .int n t), (Str.ofString "many", .int 6 t2)]) XB TB ?ho ?hcd ?hb ?hl ?hnd ?hn ?_ ?c2 ?c3 ?c4)
  case ho => k_is
  case hcd => k_is
  case hb => intro _ _; first | exact BindsTo.of_eq rfl | exact binds_K (by assumption) rfl (by k_is) rfl rfl rfl
  case hl => exact rfl
  case hnd => decide +kernel
  case hn => first | decide | omega
  case c2 => rfl
  case c3 => rfl
  case c4 => rfl
  intro dp un gd l sh9 sg9 sd9 sk9 so9 g L' h' tk' cells' Q1 E1 hdp hun AN F' N' Y' l1 B' D' X' T' TT hQ1 hE1
  revert N'
  first | (k_dflt (refine cells1 (G := fun cc9 => News _ _ _ (cc9 ++ _) → _) Y' ?_); intro oc1 dc1) | (k_dflt (refine cells2 (G := fun cc9 => News _ _ _ (cc9 ++ _) → _) Y' ?_); intro oc1 oc2 dc1 dc2) | (k_dflt (refine cells3 (G := fun cc9 => News _ _ _ (cc9 ++ _) → _) Y' ?_); intro oc1 oc2 oc3 dc1 dc2 dc3) | (k_dflt (refine cells4 (G := fun cc9 => News _ _ _ (cc9 ++ _) → _) Y' ?_); intro oc1 oc2 oc3 oc4 dc1 dc2 dc3 dc4) | (k_dflt (refine cells5 (G := fun cc9 => News _ _ _ (cc9 ++ _) → _) Y' ?_); intro oc1 oc2 oc3 oc4 oc5 dc1 dc2 dc3 dc4 dc5)
  intro N'
  clear Y'
  (try dsimp only [List.cons_append, List.nil_append] at N')
  (try dsimp only)
  (try k_fold)
  (all_goals (repeat ((with_reducible refine OQ.use (by assumption) ?_); (try dsimp only))))
  w_strict (k_steps)
  (all_goals (repeat ((with_reducible refine OQ.use (by assumption) ?_); (try dsimp only))))
  refine Stop.mk ?_
  refine opk (fun K9 hK9 => ?_)
  k_dflt (refine' KBa.make_K ?kbaF4 ?kbaN4 ?kbah4 ?kbal4 ?kbai4 ?kbar4 ?kban4 ?_)
  case kbaF4 => k_asm
  case kbaN4 => k_asm
  case kbah4 => rfl
  case kbal4 => kba_isList
  case kbai4 => kba_listInts
  case kbar4 => (unfold KBa.In; repeat (first | exact List.forall_mem_nil _ | (refine List.forall_mem_cons.mpr ⟨?_, ?_⟩; (first | exact bit255 _ | (dsimp only; omega) | omega))))
  case kban4 => kba_size
  intro h' t' k' F' N' hIn
  (all_goals (repeat ((with_reducible refine OQ.use (by assumption) ?_); (try dsimp only))))
  refine end_c F' (sub2 N') TT ⟨rfl, _, _, rfl, (KBa.ints_make hIn).trans ?_⟩
  unfold be6
  refine congr (congrArg List.cons (octet _ _ _ (by decide) (by decide))) (congr (congrArg List.cons (octet _ _ _ (by decide) (by decide))) (congr (congrArg List.cons (octet _ _ _ (by decide) (by decide))) (congr (congrArg List.cons (octet _ _ _ (by decide) (by decide))) (congr (congrArg List.cons (octet _ _ _ (by decide) (by decide))) (congrArg (· :: []) ((octet _ _ 1 (by decide) (by decide)).trans (by rw [Int.ediv_one])))))))
theorem put2bad (XB : (Lw.head.heap_1 w.params).In base) (TB : Top p loose mean mg mb base) (n : Int) (t t2 : Tok) (h0 : 0 ≤ n) (h1 : ¬ n < 65536) :
    Con w base 20 100 170 [.int n t, .int 2 t2] news (fun r news' => False) (fun c => c = .ref 163) := by
  w_on
  k_dflt (refine' con_defCQ (binds := [(Str.ofString "number", .int n t), (Str.ofString "many", .int 2 t2)]) XB TB ?ho ?hcd ?hb ?hl ?hnd ?hn ?_ ?c2 ?c3 ?c4)
  case ho => k_is
  case hcd => k_is
  case hb => intro _ _; first | exact BindsTo.of_eq rfl | exact binds_K (by assumption) rfl (by k_is) rfl rfl rfl
  case hl => exact rfl
  case hnd => decide +kernel
  case hn => first | decide | omega
  case c2 => rfl
  case c3 => rfl
  case c4 => rfl
  intro dp un gd l sh9 sg9 sd9 sk9 so9 g L' h' tk' cells' Q1 E1 hdp hun AN F' N' Y' l1 B' D' X' T' TT hQ1 hE1
  revert N'
  first | (k_dflt (refine cells1 (G := fun cc9 => News _ _ _ (cc9 ++ _) → _) Y' ?_); intro oc1 dc1) | (k_dflt (refine cells2 (G := fun cc9 => News _ _ _ (cc9 ++ _) → _) Y' ?_); intro oc1 oc2 dc1 dc2) | (k_dflt (refine cells3 (G := fun cc9 => News _ _ _ (cc9 ++ _) → _) Y' ?_); intro oc1 oc2 oc3 dc1 dc2 dc3) | (k_dflt (refine cells4 (G := fun cc9 => News _ _ _ (cc9 ++ _) → _) Y' ?_); intro oc1 oc2 oc3 oc4 dc1 dc2 dc3 dc4) | (k_dflt (refine cells5 (G := fun cc9 => News _ _ _ (cc9 ++ _) → _) Y' ?_); intro oc1 oc2 oc3 oc4 oc5 dc1 dc2 dc3 dc4 dc5)
  intro N'
  clear Y'
  (try dsimp only [List.cons_append, List.nil_append] at N')
  (try dsimp only)
  (try k_fold)
  (all_goals (repeat ((with_reducible refine OQ.use (by assumption) ?_); (try dsimp only))))
  w_strict (k_steps)
  (all_goals (repeat ((with_reducible refine OQ.use (by assumption) ?_); (try dsimp only))))
theorem put6bad (XB : (Lw.head.heap_1 w.params).In base) (TB : Top p loose mean mg mb base) (n : Int) (t t2 : Tok) (h1 : 281474976710656 ≤ n) :
    Con w base 20 100 170 [.int n t, .int 6 t2] news (fun r news' => False) (fun c => c = .ref 163) := by
  w_on
  k_dflt (refine' con_defCQ (binds := [(Str.ofString "number", .int n t), (Str.ofString "many", .int 6 t2)]) XB TB ?ho ?hcd ?hb ?hl ?hnd ?hn ?_ ?c2 ?c3 ?c4)
  case ho => k_is
  case hcd => k_is
  case hb => intro _ _; first | exact BindsTo.of_eq rfl | exact binds_K (by assumption) rfl (by k_is) rfl rfl rfl
  case hl => exact rfl
  case hnd => decide +kernel
  case hn => first | decide | omega
  case c2 => rfl
  case c3 => rfl
  case c4 => rfl
  intro dp un gd l sh9 sg9 sd9 sk9 so9 g L' h' tk' cells' Q1 E1 hdp hun AN F' N' Y' l1 B' D' X' T' TT hQ1 hE1
  revert N'
  first | (k_dflt (refine cells1 (G := fun cc9 => News _ _ _ (cc9 ++ _) → _) Y' ?_); intro oc1 dc1) | (k_dflt (refine cells2 (G := fun cc9 => News _ _ _ (cc9 ++ _) → _) Y' ?_); intro oc1 oc2 dc1 dc2) | (k_dflt (refine cells3 (G := fun cc9 => News _ _ _ (cc9 ++ _) → _) Y' ?_); intro oc1 oc2 oc3 dc1 dc2 dc3) | (k_dflt (refine cells4 (G := fun cc9 => News _ _ _ (cc9 ++ _) → _) Y' ?_); intro oc1 oc2 oc3 oc4 dc1 dc2 dc3 dc4) | (k_dflt (refine cells5 (G := fun cc9 => News _ _ _ (cc9 ++ _) → _) Y' ?_); intro oc1 oc2 oc3 oc4 oc5 dc1 dc2 dc3 dc4 dc5)
  intro N'
  clear Y'
  (try dsimp only [List.cons_append, List.nil_append] at N')
  (try dsimp only)
  (try k_fold)
  (all_goals (repeat ((with_reducible refine OQ.use (by assumption) ?_); (try dsimp only))))
  w_strict (k_steps)
  (all_goals (repeat ((with_reducible refine OQ.use (by assumption) ?_); (try dsimp only))))
theorem put6neg (XB : (Lw.head.heap_1 w.params).In base) (TB : Top p loose mean mg mb base) (n : Int) (t t2 : Tok) (h1 : n < 0) :
    Con w base 20 100 170 [.int n t, .int 6 t2] news (fun r news' => False) (fun c => c = .ref 163) := by
  w_on
  k_dflt (refine' con_defCQ (binds := [(Str.ofString "number", .int n t), (Str.ofString "many", .int 6 t2)]) XB TB ?ho ?hcd ?hb ?hl ?hnd ?hn ?_ ?c2 ?c3 ?c4)
  case ho => k_is
  case hcd => k_is
  case hb => intro _ _; first | exact BindsTo.of_eq rfl | exact binds_K (by assumption) rfl (by k_is) rfl rfl rfl
  case hl => exact rfl
  case hnd => decide +kernel
  case hn => first | decide | omega
  case c2 => rfl
  case c3 => rfl
  case c4 => rfl
  intro dp un gd l sh9 sg9 sd9 sk9 so9 g L' h' tk' cells' Q1 E1 hdp hun AN F' N' Y' l1 B' D' X' T' TT hQ1 hE1
  revert N'
  first | (k_dflt (refine cells1 (G := fun cc9 => News _ _ _ (cc9 ++ _) → _) Y' ?_); intro oc1 dc1) | (k_dflt (refine cells2 (G := fun cc9 => News _ _ _ (cc9 ++ _) → _) Y' ?_); intro oc1 oc2 dc1 dc2) | (k_dflt (refine cells3 (G := fun cc9 => News _ _ _ (cc9 ++ _) → _) Y' ?_); intro oc1 oc2 oc3 dc1 dc2 dc3) | (k_dflt (refine cells4 (G := fun cc9 => News _ _ _ (cc9 ++ _) → _) Y' ?_); intro oc1 oc2 oc3 oc4 dc1 dc2 dc3 dc4) | (k_dflt (refine cells5 (G := fun cc9 => News _ _ _ (cc9 ++ _) → _) Y' ?_); intro oc1 oc2 oc3 oc4 oc5 dc1 dc2 dc3 dc4 dc5)
  intro N'
  clear Y'
  (try dsimp only [List.cons_append, List.nil_append] at N')
  (try dsimp only)
  (try k_fold)
  (all_goals (repeat ((with_reducible refine OQ.use (by assumption) ?_); (try dsimp only))))
  w_strict (k_steps)
  (all_goals (repeat ((with_reducible refine OQ.use (by assumption) ?_); (try dsimp only))))
end
section
variable {w : World} {p : Program} {loose : List Str} {mean : ExcName → Option Value} {mg mb : Str → Option Value} {base : Heap} {news : List (Addr × Obj)}
theorem put16good (XB : (Lw.head.heap_1 w.params).In base) (TB : Top p loose mean mg mb base) (n : Int) (t : Tok) (h0 : 0 ≤ n) (h1 : n < 65536) :
    Con w base 25 200 184 [.int n t] news (fun r news' => news' = news ∧ IsB r (be2 n)) (fun _ => False) := by
  w_on
  k_dflt (refine' con_defQ (binds := [(Str.ofString "number", .int n t)]) XB TB ?ho ?hcd ?hb ?hl ?hn ?_ ?c1 ?c2 ?c3 ?c4)
  case ho => k_is
  case hcd => k_is
  case hb => intro _ _; first | exact BindsTo.of_eq rfl | exact binds_K (by assumption) rfl (by k_is) rfl rfl rfl
  case hl => exact locs rfl
  case hn => first | decide | omega
  case c1 => decide
  case c2 => rfl
  case c3 => rfl
  case c4 => rfl
  intro dp un gd l sh9 sg9 sd9 sk9 so9 g L' h' Q1 E1 hdp hun AN F' N' l1 B' D' X' T' TT hQ1 hE1
  (try dsimp only)
  (try k_fold)
  (all_goals (repeat ((with_reducible refine OQ.use (by assumption) ?_); (try dsimp only))))
  w_strict (k_steps)
  (all_goals (repeat ((with_reducible refine OQ.use (by assumption) ?_); (try dsimp only))))
  refine Stop.mk ?_
  refine opk (fun K9 hK9 => ?_)
  k_dflt (refine' con_step (put2good XB TB n _ _ h0 h1) (by assumption) (by k_asm) (by k_asm) (by assumption) rfl rfl rfl ?hd9 ?hu9 ?hesc9 ?hret9)
  case hd9 => (dsimp only; first | exact dstep1 hdp rfl | exact dstep hdp rfl | omega)
  case hu9 => (dsimp only; first | exact dstep hun rfl | exact dstep1 hun rfl | omega)
  case hesc9 => exact fun _ _ _ _ q _ => q.elim
  intro r9 h' tk' news' F' N' P9
  (try k_sweep)
  (try dsimp only)
  k_steps
  (all_goals (repeat ((with_reducible refine OQ.use (by assumption) ?_); (try dsimp only))))
  exact end_c F' N' TT P9
theorem put48good (XB : (Lw.head.heap_1 w.params).In base) (TB : Top p loose mean mg mb base) (n : Int) (t : Tok) (h0 : 0 ≤ n) (h1 : n < 281474976710656) :
    Con w base 25 200 191 [.int n t] news (fun r news' => news' = news ∧ IsB r (be6 n)) (fun _ => False) := by
  w_on
  k_dflt (refine' con_defQ (binds := [(Str.ofString "number", .int n t)]) XB TB ?ho ?hcd ?hb ?hl ?hn ?_ ?c1 ?c2 ?c3 ?c4)
  case ho => k_is
  case hcd => k_is
  case hb => intro _ _; first | exact BindsTo.of_eq rfl | exact binds_K (by assumption) rfl (by k_is) rfl rfl rfl
  case hl => exact locs rfl
  case hn => first | decide | omega
  case c1 => decide
  case c2 => rfl
  case c3 => rfl
  case c4 => rfl
  intro dp un gd l sh9 sg9 sd9 sk9 so9 g L' h' Q1 E1 hdp hun AN F' N' l1 B' D' X' T' TT hQ1 hE1
  (try dsimp only)
  (try k_fold)
  (all_goals (repeat ((with_reducible refine OQ.use (by assumption) ?_); (try dsimp only))))
  w_strict (k_steps)
  (all_goals (repeat ((with_reducible refine OQ.use (by assumption) ?_); (try dsimp only))))
  refine Stop.mk ?_
  refine opk (fun K9 hK9 => ?_)
  k_dflt (refine' con_step (put6good XB TB n _ _ h0 h1) (by assumption) (by k_asm) (by k_asm) (by assumption) rfl rfl rfl ?hd11 ?hu11 ?hesc11 ?hret11)
  case hd11 => (dsimp only; first | exact dstep1 hdp rfl | exact dstep hdp rfl | omega)
  case hu11 => (dsimp only; first | exact dstep hun rfl | exact dstep1 hun rfl | omega)
  case hesc11 => exact fun _ _ _ _ q _ => q.elim
  intro r9 h' tk' news' F' N' P9
  (try k_sweep)
  (try dsimp only)
  k_steps
  (all_goals (repeat ((with_reducible refine OQ.use (by assumption) ?_); (try dsimp only))))
  exact end_c F' N' TT P9
theorem put16bad (XB : (Lw.head.heap_1 w.params).In base) (TB : Top p loose mean mg mb base) (n : Int) (t : Tok) (h0 : 0 ≤ n) (h1 : ¬ n < 65536) :
    Con w base 25 200 184 [.int n t] news (fun r news' => False) (fun c => c = .ref 163) := by
  w_on
  k_dflt (refine' con_defQ (binds := [(Str.ofString "number", .int n t)]) XB TB ?ho ?hcd ?hb ?hl ?hn ?_ ?c1 ?c2 ?c3 ?c4)
  case ho => k_is
  case hcd => k_is
  case hb => intro _ _; first | exact BindsTo.of_eq rfl | exact binds_K (by assumption) rfl (by k_is) rfl rfl rfl
  case hl => exact locs rfl
  case hn => first | decide | omega
  case c1 => decide
  case c2 => rfl
  case c3 => rfl
  case c4 => rfl
  intro dp un gd l sh9 sg9 sd9 sk9 so9 g L' h' Q1 E1 hdp hun AN F' N' l1 B' D' X' T' TT hQ1 hE1
  (try dsimp only)
  (try k_fold)
  (all_goals (repeat ((with_reducible refine OQ.use (by assumption) ?_); (try dsimp only))))
  w_strict (k_steps)
  (all_goals (repeat ((with_reducible refine OQ.use (by assumption) ?_); (try dsimp only))))
  refine Stop.mk ?_
  refine opk (fun K9 hK9 => ?_)
  k_dflt (refine' con_step (put2bad XB TB n _ _ h0 h1) (by assumption) (by k_asm) (by k_asm) (by assumption) rfl rfl rfl ?hd13 ?hu13 ?hesc13 ?hret13)
  case hd13 => (dsimp only; first | exact dstep1 hdp rfl | exact dstep hdp rfl | omega)
  case hu13 => (dsimp only; first | exact dstep hun rfl | exact dstep1 hun rfl | omega)
  case hesc13 =>
    refine con_pass2 (by first | exact fun _ _ x => x | (rename EQ9 _ _ => hE9; exact EQ9.pass hE9)) (by assumption) (by k_asm) (by k_asm) (by assumption) rfl ?sub13 rfl rfl ?pe13
    case sub13 => intro _ hq; repeat (first | exact hq | refine List.mem_cons_of_mem _ ?_)
    case pe13 => first | exact fun _ x => x | exact fun _ x => ⟨trivial, x⟩
  intro r9 h' tk' news' F' N' P9
  (try k_sweep)
  (try dsimp only)
  exact P9.elim
theorem put48bad (XB : (Lw.head.heap_1 w.params).In base) (TB : Top p loose mean mg mb base) (n : Int) (t : Tok) (h1 : 281474976710656 ≤ n) :
    Con w base 25 200 191 [.int n t] news (fun r news' => False) (fun c => c = .ref 163) := by
  w_on
  k_dflt (refine' con_defQ (binds := [(Str.ofString "number", .int n t)]) XB TB ?ho ?hcd ?hb ?hl ?hn ?_ ?c1 ?c2 ?c3 ?c4)
  case ho => k_is
  case hcd => k_is
  case hb => intro _ _; first | exact BindsTo.of_eq rfl | exact binds_K (by assumption) rfl (by k_is) rfl rfl rfl
  case hl => exact locs rfl
  case hn => first | decide | omega
  case c1 => decide
  case c2 => rfl
  case c3 => rfl
  case c4 => rfl
  intro dp un gd l sh9 sg9 sd9 sk9 so9 g L' h' Q1 E1 hdp hun AN F' N' l1 B' D' X' T' TT hQ1 hE1
  (try dsimp only)
  (try k_fold)
  (all_goals (repeat ((with_reducible refine OQ.use (by assumption) ?_); (try dsimp only))))
  w_strict (k_steps)
  (all_goals (repeat ((with_reducible refine OQ.use (by assumption) ?_); (try dsimp only))))
  refine Stop.mk ?_
  refine opk (fun K9 hK9 => ?_)
  k_dflt (refine' con_step (put6bad XB TB n _ _ h1) (by assumption) (by k_asm) (by k_asm) (by assumption) rfl rfl rfl ?hd15 ?hu15 ?hesc15 ?hret15)
  case hd15 => (dsimp only; first | exact dstep1 hdp rfl | exact dstep hdp rfl | omega)
  case hu15 => (dsimp only; first | exact dstep hun rfl | exact dstep1 hun rfl | omega)
  case hesc15 =>
    refine con_pass2 (by first | exact fun _ _ x => x | (rename EQ9 _ _ => hE9; exact EQ9.pass hE9)) (by assumption) (by k_asm) (by k_asm) (by assumption) rfl ?sub15 rfl rfl ?pe15
    case sub15 => intro _ hq; repeat (first | exact hq | refine List.mem_cons_of_mem _ ?_)
    case pe15 => first | exact fun _ x => x | exact fun _ x => ⟨trivial, x⟩
  intro r9 h' tk' news' F' N' P9
  (try k_sweep)
  (try dsimp only)
  exact P9.elim
theorem put48neg (XB : (Lw.head.heap_1 w.params).In base) (TB : Top p loose mean mg mb base) (n : Int) (t : Tok) (h1 : n < 0) :
    Con w base 25 200 191 [.int n t] news (fun r news' => False) (fun c => c = .ref 163) := by
  w_on
  k_dflt (refine' con_defQ (binds := [(Str.ofString "number", .int n t)]) XB TB ?ho ?hcd ?hb ?hl ?hn ?_ ?c1 ?c2 ?c3 ?c4)
  case ho => k_is
  case hcd => k_is
  case hb => intro _ _; first | exact BindsTo.of_eq rfl | exact binds_K (by assumption) rfl (by k_is) rfl rfl rfl
  case hl => exact locs rfl
  case hn => first | decide | omega
  case c1 => decide
  case c2 => rfl
  case c3 => rfl
  case c4 => rfl
  intro dp un gd l sh9 sg9 sd9 sk9 so9 g L' h' Q1 E1 hdp hun AN F' N' l1 B' D' X' T' TT hQ1 hE1
  (try dsimp only)
  (try k_fold)
  (all_goals (repeat ((with_reducible refine OQ.use (by assumption) ?_); (try dsimp only))))
  w_strict (k_steps)
  (all_goals (repeat ((with_reducible refine OQ.use (by assumption) ?_); (try dsimp only))))
  refine Stop.mk ?_
  refine opk (fun K9 hK9 => ?_)
  k_dflt (refine' con_step (put6neg XB TB n _ _ h1) (by assumption) (by k_asm) (by k_asm) (by assumption) rfl rfl rfl ?hd17 ?hu17 ?hesc17 ?hret17)
  case hd17 => (dsimp only; first | exact dstep1 hdp rfl | exact dstep hdp rfl | omega)
  case hu17 => (dsimp only; first | exact dstep hun rfl | exact dstep1 hun rfl | omega)
  case hesc17 =>
    refine con_pass2 (by first | exact fun _ _ x => x | (rename EQ9 _ _ => hE9; exact EQ9.pass hE9)) (by assumption) (by k_asm) (by k_asm) (by assumption) rfl ?sub17 rfl rfl ?pe17
    case sub17 => intro _ hq; repeat (first | exact hq | refine List.mem_cons_of_mem _ ?_)
    case pe17 => first | exact fun _ x => x | exact fun _ x => ⟨trivial, x⟩
  intro r9 h' tk' news' F' N' P9
  (try k_sweep)
  (try dsimp only)
  exact P9.elim
end
section
variable {w : World} {p : Program} {loose : List Str} {mean : ExcName → Option Value} {mg mb : Str → Option Value} {base : Heap} {news : List (Addr × Obj)}
abbrev bu2 (a b : Str) (m : Str → Option Value) (oa ob : Option Value) : Str → Option Value := fun y => if y = a then oa else if y = b then ob else m y
theorem bu2_first (a b : Str) (m : Str → Option Value) : m = bu2 a b m (m a) (m b) := by
  funext y
  show m y = if y = a then m a else if y = b then m b else m y
  split
  · rename_i h; rw [h]
  · split
    · rename_i h; rw [h]
    · rfl
theorem bu2_next {a b : Str} {m : Str → Option Value} {oa ob va vb : Option Value} : (fun y => if y = a then va else if y = b then vb else bu2 a b m oa ob y) = bu2 a b m va vb := by
  funext y
  show (if y = a then va else if y = b then vb else if y = a then oa else if y = b then ob else m y) = if y = a then va else if y = b then vb else m y
  split
  · rfl
  · split <;> rfl
theorem bytes_ind {prog : Program} {A : Around} {E : Value → Shared → Prop} {s : Shared} {env : Env} {h₀ : Heap} {x : Str} {body : List Stmt} {Q : Flow → Shared → Prop} {I : Addr} (P : List Int → (Str → Option Value) → List (Addr × Obj) → Prop)
    (hz : ∀ m news, P [] m news → ∀ h tk, Fr h₀ env.locals h m → News h₀ env.locals h news → Q .next { s with heap := h, toks := tk })
    (hs : ∀ c r m news, P (c :: r) m news → 0 ≤ c → c < 256 → ∀ (u : Tok) (it : Obj) h tk, Fr h₀ env.locals h (fun y => if y = x then some (.int c u) else m y) → News h₀ env.locals h ((I, it) :: news) →
      wpAny (model prog w) A (execs body env) (UnrPost h₀ env.locals { s with heap := h, toks := tk } I it (P r) Q) E { s with heap := h, toks := tk }) :
    ∀ l m news, P l m news → BytesRest prog w A E h₀ env x body Q s I l m news := by
  intro l
  induction l with
  | nil => exact fun m news p => hz m news p
  | cons c r ih => exact fun m news p c0 c1 u it h tk F N => wpAny_mono (hs c r m news p c0 c1 u it h tk F N) (fun f s₂ y => unrPost_mono ih y) fun _ _ y => y
def foldB (a : Int) (xs : List Int) : Int := xs.foldl (fun a k => a * 2 ^ 8 + k) a
def GetP (m0 : Str → Option Value) (news : List (Addr × Obj)) (V : Int) (rest : List Int) (m : Str → Option Value) (news' : List (Addr × Obj)) : Prop :=
  ∃ a ta oc n, news' = news ∧ m = bu2 (Str.ofString "found") (Str.ofString "octet") m0 (some (.int a ta)) oc ∧ 0 ≤ a ∧ a < 256 ^ n ∧ rest.length + n ≤ 6 ∧ foldB a rest = V
theorem getP_end {m0 : Str → Option Value} {news : List (Addr × Obj)} {V : Int} {c : Int} {r : List Int} {a : Int} {n : Nat} {v u : Tok} {m : Str → Option Value} (oa ob : Option Value) (hm : m = fun y => if y = Str.ofString "found" then some (.int (a * 2 ^ 8 + c) v) else if y = Str.ofString "octet" then some (.int c u) else bu2 (Str.ofString "found") (Str.ofString "octet") m0 oa ob y)
    (h0 : 0 ≤ a) (h1 : a < 256 ^ n) (c0 : 0 ≤ c) (c1 : c < 256) (hl : (c :: r).length + n ≤ 6) (hV : foldB a (c :: r) = V) : GetP m0 news V r m news := by
  rw [hm, bu2_next]
  refine ⟨_, _, _, n + 1, rfl, rfl, by omega, ?_, ?_, hV⟩
  · rw [Int.pow_succ]; omega
  · rw [List.length_cons] at hl; omega
theorem pow_5 {a : Int} {n : Nat} (h : a < 256 ^ n) (hn : n ≤ 5) : a < 1099511627776 :=
  Int.lt_of_lt_of_le h (by
    have : (256 : Nat) ^ n ≤ 256 ^ 5 := Nat.pow_le_pow_right (by decide) hn
    have e : ((256 ^ n : Nat) : Int) ≤ ((256 ^ 5 : Nat) : Int) := Int.ofNat_le.mpr this
    simpa using e)
theorem get_n (XB : (Lw.head.heap_1 w.params).In base) (TB : Top p loose mean mg mb base) (b : Array UInt8) (ks xs : List Int) (j k : Nat) (tb t t2 : Tok) (hk : KBw.bInts b = ks) (hj : (ks.drop j).take k = xs) (hx : xs.length = k) (hk1 : 1 ≤ k) (h6 : k ≤ 6) (hl : ks.length ≤ 100000) :
    Con w base 20 100 177 [.bytes b tb, .int (j : Nat) t, .int (k : Nat) t2] news (fun r news' => news' = news ∧ ∃ tk, r = .int (foldB 0 xs) tk) (fun _ => False) := by
  have hlen : j + k ≤ ks.length := by
    have := congrArg List.length hj
    rw [hx] at this
    simp only [List.length_take, List.length_drop] at this
    omega
  have hj2 : ((j : Nat) : Int) + (k : Nat) = ((j + k : Nat) : Int) := by omega
  w_on
  k_dflt (refine' con_defQ (binds := [(Str.ofString "octets", .bytes b tb), (Str.ofString "at", .int (j : Nat) t), (Str.ofString "many", .int (k : Nat) t2)]) XB TB ?ho ?hcd ?hb ?hl ?hn ?_ ?c1 ?c2 ?c3 ?c4)
  case ho => k_is
  case hcd => k_is
  case hb => intro _ _; first | exact BindsTo.of_eq rfl | exact binds_K (by assumption) rfl (by k_is) rfl rfl rfl
  case hl => exact locs rfl
  case hn => first | decide | omega
  case c1 => decide
  case c2 => rfl
  case c3 => rfl
  case c4 => rfl
  intro dp un gd l sh9 sg9 sd9 sk9 so9 g L' h' Q1 E1 hdp hun AN F' N' l1 B' D' X' T' TT hQ1 hE1
  (try dsimp only)
  (try k_fold)
  (all_goals (repeat ((with_reducible refine OQ.use (by assumption) ?_); (try dsimp only))))
  w_strict (k_steps)
  (all_goals (repeat ((with_reducible refine OQ.use (by assumption) ?_); (try dsimp only))))
  refine Stop.mk ?_
  rename KBw.bInts (KBy.picked _ _ _) = _ => hp
  rw [hj2, clipAt_nat, Nat.min_eq_left (by first | decide | omega), Nat.min_eq_left (by first | decide | omega), Nat.add_sub_cancel_left, hj] at hp
  (all_goals (repeat ((with_reducible refine OQ.use (by assumption) ?_); (try dsimp only))))
  refine iter_bytesUnr (by rfl) (by k_asm) (by k_asm) hp fun I hI => ?_
  refine bytes_ind (GetP _ news (foldB 0 xs)) (fun m news' hP h' tk' F' N' => ?_) (fun c r m news' hP c0 c1 u it h' tk' F' N' => ?_) _ _ _ ⟨0, _, _, 0, rfl, bu2_first _ _ _, by decide, by decide, by omega, rfl⟩
  · obtain ⟨a, ta, oc, n, rfl, rfl, a0, a1, a2, hV⟩ := hP
    have hV' : a = foldB 0 xs := hV
    (all_goals (repeat ((with_reducible refine OQ.use (by assumption) ?_); (try dsimp only))))
    w_strict (k_steps)
    (all_goals (repeat ((with_reducible refine OQ.use (by assumption) ?_); (try dsimp only))))
    (all_goals (repeat ((with_reducible refine OQ.use (by assumption) ?_); (try dsimp only))))
    exact end_c (by k_asm) (by k_asm) TT ⟨rfl, _, congrArg (Value.int · _) hV'⟩
  · obtain ⟨a, ta, oc, n, rfl, rfl, a0, a1, a2, hV⟩ := hP
    have a3 : a < 1099511627776 := pow_5 a1 (by rw [List.length_cons] at a2; omega)
    (all_goals (repeat ((with_reducible refine OQ.use (by assumption) ?_); (try dsimp only))))
    w_strict (k_steps)
    (all_goals (repeat ((with_reducible refine OQ.use (by assumption) ?_); (try dsimp only))))
    exact getP_end _ _ rfl a0 a1 c0 c1 a2 hV
theorem get2 (XB : (Lw.head.heap_1 w.params).In base) (TB : Top p loose mean mg mb base) (b : Array UInt8) (ks : List Int) (j : Nat) (x0 x1 : Int) (tb t t2 : Tok) (hk : KBw.bInts b = ks) (hj : (ks.drop j).take 2 = [x0, x1]) (hl : ks.length ≤ 100000) :
    Con w base 20 100 177 [.bytes b tb, .int (j : Nat) t, .int 2 t2] news (fun r news' => news' = news ∧ ∃ tk, r = .int (x0 * 256 + x1) tk) (fun _ => False) := by
  have h := get_n (news := news) XB TB b ks [x0, x1] j 2 tb t t2 hk hj rfl (by decide) (by decide) hl
  rwa [show foldB 0 [x0, x1] = x0 * 256 + x1 by show (0 * 2 ^ 8 + x0) * 2 ^ 8 + x1 = _; omega] at h
theorem get6 (XB : (Lw.head.heap_1 w.params).In base) (TB : Top p loose mean mg mb base) (b : Array UInt8) (ks : List Int) (j : Nat) (x0 x1 x2 x3 x4 x5 : Int) (tb t t2 : Tok) (hk : KBw.bInts b = ks) (hj : (ks.drop j).take 6 = [x0, x1, x2, x3, x4, x5]) (hl : ks.length ≤ 100000) :
    Con w base 20 100 177 [.bytes b tb, .int (j : Nat) t, .int 6 t2] news (fun r news' => news' = news ∧ ∃ tk, r = .int (x0 * 1099511627776 + x1 * 4294967296 + x2 * 16777216 + x3 * 65536 + x4 * 256 + x5) tk) (fun _ => False) := by
  have h := get_n (news := news) XB TB b ks [x0, x1, x2, x3, x4, x5] j 6 tb t t2 hk hj rfl (by decide) (by decide) hl
  rwa [show foldB 0 [x0, x1, x2, x3, x4, x5] = x0 * 1099511627776 + x1 * 4294967296 + x2 * 16777216 + x3 * 65536 + x4 * 256 + x5 by show (((((0 * 2 ^ 8 + x0) * 2 ^ 8 + x1) * 2 ^ 8 + x2) * 2 ^ 8 + x3) * 2 ^ 8 + x4) * 2 ^ 8 + x5 = _; omega] at h
theorem get16 (XB : (Lw.head.heap_1 w.params).In base) (TB : Top p loose mean mg mb base) (b : Array UInt8) (ks : List Int) (j : Nat) (x0 x1 : Int) (tb t : Tok) (hk : KBw.bInts b = ks) (hj : (ks.drop j).take 2 = [x0, x1]) (hl : ks.length ≤ 100000) :
    Con w base 25 200 198 [.bytes b tb, .int (j : Nat) t] news (fun r news' => news' = news ∧ ∃ tk, r = .int (x0 * 256 + x1) tk) (fun _ => False) := by
  w_on
  k_dflt (refine' con_defQ (binds := [(Str.ofString "octets", .bytes b tb), (Str.ofString "at", .int (j : Nat) t)]) XB TB ?ho ?hcd ?hb ?hl ?hn ?_ ?c1 ?c2 ?c3 ?c4)
  case ho => k_is
  case hcd => k_is
  case hb => intro _ _; first | exact BindsTo.of_eq rfl | exact binds_K (by assumption) rfl (by k_is) rfl rfl rfl
  case hl => exact locs rfl
  case hn => first | decide | omega
  case c1 => decide
  case c2 => rfl
  case c3 => rfl
  case c4 => rfl
  intro dp un gd l sh9 sg9 sd9 sk9 so9 g L' h' Q1 E1 hdp hun AN F' N' l1 B' D' X' T' TT hQ1 hE1
  (try dsimp only)
  (try k_fold)
  (all_goals (repeat ((with_reducible refine OQ.use (by assumption) ?_); (try dsimp only))))
  w_strict (k_steps)
  (all_goals (repeat ((with_reducible refine OQ.use (by assumption) ?_); (try dsimp only))))
  refine Stop.mk ?_
  refine opk (fun K9 hK9 => ?_)
  k_dflt (refine' con_step (get2 XB TB b ks j x0 x1 _ _ _ hk hj hl) (by assumption) (by k_asm) (by k_asm) (by assumption) rfl rfl rfl ?hd20 ?hu20 ?hesc20 ?hret20)
  case hd20 => (dsimp only; first | exact dstep1 hdp rfl | exact dstep hdp rfl | omega)
  case hu20 => (dsimp only; first | exact dstep hun rfl | exact dstep1 hun rfl | omega)
  case hesc20 => exact fun _ _ _ _ q _ => q.elim
  intro r9 h' tk' news' F' N' P9
  (try k_sweep)
  (try dsimp only)
  k_steps
  (all_goals (repeat ((with_reducible refine OQ.use (by assumption) ?_); (try dsimp only))))
  exact end_c F' N' TT P9
theorem get48 (XB : (Lw.head.heap_1 w.params).In base) (TB : Top p loose mean mg mb base) (b : Array UInt8) (ks : List Int) (j : Nat) (x0 x1 x2 x3 x4 x5 : Int) (tb t : Tok) (hk : KBw.bInts b = ks) (hj : (ks.drop j).take 6 = [x0, x1, x2, x3, x4, x5]) (hl : ks.length ≤ 100000) :
    Con w base 25 200 205 [.bytes b tb, .int (j : Nat) t] news (fun r news' => news' = news ∧ ∃ tk, r = .int (x0 * 1099511627776 + x1 * 4294967296 + x2 * 16777216 + x3 * 65536 + x4 * 256 + x5) tk) (fun _ => False) := by
  w_on
  k_dflt (refine' con_defQ (binds := [(Str.ofString "octets", .bytes b tb), (Str.ofString "at", .int (j : Nat) t)]) XB TB ?ho ?hcd ?hb ?hl ?hn ?_ ?c1 ?c2 ?c3 ?c4)
  case ho => k_is
  case hcd => k_is
  case hb => intro _ _; first | exact BindsTo.of_eq rfl | exact binds_K (by assumption) rfl (by k_is) rfl rfl rfl
  case hl => exact locs rfl
  case hn => first | decide | omega
  case c1 => decide
  case c2 => rfl
  case c3 => rfl
  case c4 => rfl
  intro dp un gd l sh9 sg9 sd9 sk9 so9 g L' h' Q1 E1 hdp hun AN F' N' l1 B' D' X' T' TT hQ1 hE1
  (try dsimp only)
  (try k_fold)
  (all_goals (repeat ((with_reducible refine OQ.use (by assumption) ?_); (try dsimp only))))
  w_strict (k_steps)
  (all_goals (repeat ((with_reducible refine OQ.use (by assumption) ?_); (try dsimp only))))
  refine Stop.mk ?_
  refine opk (fun K9 hK9 => ?_)
  k_dflt (refine' con_step (get6 XB TB b ks j x0 x1 x2 x3 x4 x5 _ _ _ hk hj hl) (by assumption) (by k_asm) (by k_asm) (by assumption) rfl rfl rfl ?hd22 ?hu22 ?hesc22 ?hret22)
  case hd22 => (dsimp only; first | exact dstep1 hdp rfl | exact dstep hdp rfl | omega)
  case hu22 => (dsimp only; first | exact dstep hun rfl | exact dstep1 hun rfl | omega)
  case hesc22 => exact fun _ _ _ _ q _ => q.elim
  intro r9 h' tk' news' F' N' P9
  (try k_sweep)
  (try dsimp only)
  k_steps
  (all_goals (repeat ((with_reducible refine OQ.use (by assumption) ?_); (try dsimp only))))
  exact end_c F' N' TT P9
end
section
variable {w : World} {p : Program} {loose : List Str} {mean : ExcName → Option Value} {mg mb : Str → Option Value} {base : Heap} {news : List (Addr × Obj)}
def halfT : List Int := [0, 498536548, 997073096, 651767980, 1994146192, 1802195444, 1303535960, 1342533948, 3988292384, 4027552580, 3604390888, 3412177804, 2607071920, 2262029012, 2685067896, 3183342108]
theorem bit15 (x : Int) : 0 ≤ Builtin.bitAnd x 15 ∧ Builtin.bitAnd x 15 < 16 := by
  have := bitAnd_range x (y := 15) (by decide)
  omega
theorem tab_walk {prog : Program} {A : Around} {s : Shared} {E : Value → Shared → Prop} {g : Heap} {L' : Addr} {m' : Str → Option Value} {value slice : PySem.Expr} {x : Int} {u : Tok} {Q : Value → Shared → Prop} (F : Fr g L' s.heap m') (X : (Lw.head.heap_1 w.params).In g)
    (h : ∀ t, Q (.int (halfT.getD (Builtin.bitAnd x 15).toNat 0) t) s)
    (hs : subscripted slice false (.ref 109) (.int (Builtin.bitAnd x 15) u) = operate [.ref 109, .int (Builtin.bitAnd x 15) u] (getItem (.ref 109) (.int (Builtin.bitAnd x 15) u)) := by with_unfolding_all rfl) :
    wpAny (model prog w) A (subscriptTail value slice (.ref 109) (.int (Builtin.bitAnd x 15) u)) Q E s := by
  have b := bit15 x
  k_dflt (refine' topTupAny_K (ns := halfT) F X ?l ?i b.1 ?k4 ?k5 h hs)
  case l => k_is
  case i => unfold halfT; l_ints
  case k4 => show _ < (16 : Int); exact b.2
  case k5 => omega
def turnC (a k : Int) : Int :=
  Builtin.bitXor ((Builtin.bitXor (a.fdiv 16) (halfT.getD (Builtin.bitAnd (Builtin.bitXor a k) 15).toNat 0)).fdiv 16) (halfT.getD (Builtin.bitAnd (Builtin.bitXor (Builtin.bitXor (a.fdiv 16) (halfT.getD (Builtin.bitAnd (Builtin.bitXor a k) 15).toNat 0)) (k.fdiv 16)) 15).toNat 0)
def crcS (ks : List Int) : Int := Builtin.bitXor (ks.foldl turnC 4294967295) 4294967295
local macro_rules | `(tactic| walk_at "subscriptTail") => `(tactic| (k_here; (with_reducible show wpAny _ _ (subscriptTail _ _ (Value.ref 109) (Value.int (Builtin.bitAnd _ 15) _)) _ _ _); k_dflt (refine tab_walk (by k_asm) (by k_asm) ?_); intro _))
abbrev sumS (ks : List Int) : List Int := [crcS ks % 256, crcS ks / 256 % 256, crcS ks / 65536 % 256, crcS ks / 16777216 % 256]
theorem crc_con (XB : (Lw.head.heap_1 w.params).In base) (TB : Top p loose mean mg mb base) (b : Array UInt8) (ks : List Int) (tb : Tok) (hk : KBw.bInts b = ks) :
    Con w base 20 100 116 [.bytes b tb] news (fun r news' => news' = news ∧ ∃ tk, r = .int (crcS ks) tk) (fun _ => False) := by
  w_on
  k_dflt (refine' con_defQ (binds := [(Str.ofString "octets", .bytes b tb)]) XB TB ?ho ?hcd ?hb ?hl ?hn ?_ ?c1 ?c2 ?c3 ?c4)
  case ho => k_is
  case hcd => k_is
  case hb => intro _ _; first | exact BindsTo.of_eq rfl | exact binds_K (by assumption) rfl (by k_is) rfl rfl rfl
  case hl => exact locs rfl
  case hn => first | decide | omega
  case c1 => decide
  case c2 => rfl
  case c3 => rfl
  case c4 => rfl
  intro dp un gd l sh9 sg9 sd9 sk9 so9 g L' h' Q1 E1 hdp hun AN F' N' l1 B' D' X' T' TT hQ1 hE1
  (try dsimp only)
  (try k_fold)
  (all_goals (repeat ((with_reducible refine OQ.use (by assumption) ?_); (try dsimp only))))
  w_strict (k_steps)
  (all_goals (repeat ((with_reducible refine OQ.use (by assumption) ?_); (try dsimp only))))
  refine Stop.mk ?_
  with_unfolding_all refine' KBw.iterBytes_acc1 (y := Str.ofString "word") turnC hk (by rfl) (by k_asm) (by k_asm) (by rfl) (fun k' t' a' ta' h' tk' own' hmem' hlo' hhi' hoff' F' N' => ?_) (fun u' t' h' tk' F' N' => ?_)
  · (try dsimp only)
    (all_goals (repeat ((with_reducible refine OQ.use (by assumption) ?_); (try dsimp only))))
    w_strict (k_steps)
    (all_goals (repeat ((with_reducible refine OQ.use (by assumption) ?_); (try dsimp only))))
    refine ⟨_, _, _, news ++ own', news, rfl, by k_asm, by k_asm, fun q hq => List.mem_append_left _ hq, fun q hq => List.mem_append_right _ hq, rfl, rfl, ⟨_, rfl⟩, fun z h1 h2 => ?_⟩
    simp only [if_neg h1, if_neg h2]
  · (try dsimp only)
    (all_goals (repeat ((with_reducible refine OQ.use (by assumption) ?_); (try dsimp only))))
    w_strict (k_steps)
    (all_goals (repeat ((with_reducible refine OQ.use (by assumption) ?_); (try dsimp only))))
    (all_goals (repeat ((with_reducible refine OQ.use (by assumption) ?_); (try dsimp only))))
    exact end_c (by k_asm) (by k_asm) TT ⟨rfl, _, rfl⟩
theorem sum_con (XB : (Lw.head.heap_1 w.params).In base) (TB : Top p loose mean mg mb base) (b : Array UInt8) (ks : List Int) (tb : Tok) (hk : KBw.bInts b = ks) :
    Con w base 25 200 121 [.bytes b tb] news (fun r news' => news' = news ∧ IsB r (sumS ks)) (fun _ => False) := by
  w_on
  k_dflt (refine' con_defCQ (binds := [(Str.ofString "octets", .bytes b tb)]) XB TB ?ho ?hcd ?hb ?hl ?hnd ?hn ?_ ?c2 ?c3 ?c4)
  case ho => k_is
  case hcd => k_is
  case hb => intro _ _; first | exact BindsTo.of_eq rfl | exact binds_K (by assumption) rfl (by k_is) rfl rfl rfl
  case hl => exact rfl
  case hnd => decide +kernel
  case hn => first | decide | omega
  case c2 => rfl
  case c3 => rfl
  case c4 => rfl
  intro dp un gd l sh9 sg9 sd9 sk9 so9 g L' h' tk' cells' Q1 E1 hdp hun AN F' N' Y' l1 B' D' X' T' TT hQ1 hE1
  revert N'
  first | (k_dflt (refine cells1 (G := fun cc9 => News _ _ _ (cc9 ++ _) → _) Y' ?_); intro oc1 dc1) | (k_dflt (refine cells2 (G := fun cc9 => News _ _ _ (cc9 ++ _) → _) Y' ?_); intro oc1 oc2 dc1 dc2) | (k_dflt (refine cells3 (G := fun cc9 => News _ _ _ (cc9 ++ _) → _) Y' ?_); intro oc1 oc2 oc3 dc1 dc2 dc3) | (k_dflt (refine cells4 (G := fun cc9 => News _ _ _ (cc9 ++ _) → _) Y' ?_); intro oc1 oc2 oc3 oc4 dc1 dc2 dc3 dc4) | (k_dflt (refine cells5 (G := fun cc9 => News _ _ _ (cc9 ++ _) → _) Y' ?_); intro oc1 oc2 oc3 oc4 oc5 dc1 dc2 dc3 dc4 dc5)
  intro N'
  clear Y'
  (try dsimp only [List.cons_append, List.nil_append] at N')
  (try dsimp only)
  (try k_fold)
  (all_goals (repeat ((with_reducible refine OQ.use (by assumption) ?_); (try dsimp only))))
  w_strict (k_steps)
  (all_goals (repeat ((with_reducible refine OQ.use (by assumption) ?_); (try dsimp only))))
  refine Stop.mk ?_
  refine opk (fun K9 hK9 => ?_)
  k_dflt (refine' con_step (crc_con XB TB b ks _ hk) (by assumption) (by k_asm) (by k_asm) (by assumption) rfl rfl rfl ?hd25 ?hu25 ?hesc25 ?hret25)
  case hd25 => (dsimp only; first | exact dstep1 hdp rfl | exact dstep hdp rfl | omega)
  case hu25 => (dsimp only; first | exact dstep hun rfl | exact dstep1 hun rfl | omega)
  case hesc25 => exact fun _ _ _ _ q _ => q.elim
  intro r9 h' tk' news' F' N' P9
  (try k_sweep)
  (try dsimp only)
  obtain ⟨rfl, tk9, rfl⟩ := P9
  (all_goals (repeat ((with_reducible refine OQ.use (by assumption) ?_); (try dsimp only))))
  w_strict (k_steps)
  (all_goals (repeat ((with_reducible refine OQ.use (by assumption) ?_); (try dsimp only))))
  refine Stop.mk ?_
  refine opk (fun K9 hK9 => ?_)
  k_dflt (refine' KBa.make_K ?kbaF26 ?kbaN26 ?kbah26 ?kbal26 ?kbai26 ?kbar26 ?kban26 ?_)
  case kbaF26 => k_asm
  case kbaN26 => k_asm
  case kbah26 => rfl
  case kbal26 => kba_isList
  case kbai26 => kba_listInts
  case kbar26 => (unfold KBa.In; repeat (first | exact List.forall_mem_nil _ | (refine List.forall_mem_cons.mpr ⟨?_, ?_⟩; (first | exact bit255 _ | (dsimp only; omega) | omega))))
  case kban26 => kba_size
  intro h' t' k' F' N' hIn
  (all_goals (repeat ((with_reducible refine OQ.use (by assumption) ?_); (try dsimp only))))
  refine end_c F' (sub2 N') TT ⟨rfl, _, _, rfl, (KBa.ints_make hIn).trans ?_⟩
  unfold sumS
  refine congr (congrArg List.cons ((octet _ _ 1 (by decide) (by decide)).trans (by rw [Int.ediv_one]))) (congr (congrArg List.cons (octet _ _ _ (by decide) (by decide))) (congr (congrArg List.cons (octet _ _ _ (by decide) (by decide))) (congrArg (· :: []) (octet _ _ _ (by decide) (by decide)))))
end
local macro_rules | `(tactic| walk_at "call type:bytes") => `(tactic| (k_here; (with_reducible show wpAny _ _ (call (Value.type "bytes") [Value.int _ _]) _ _ _); k_dflt (refine call_bytes_int (by omega) (by omega) ?_); intro _ _ _))
local macro_rules | `(tactic| walk_at "call type:bytes") => `(tactic| (k_here; (with_reducible show wpAny _ _ (call (Value.type "bytes") [Value.bytes _ _]) _ _ _); k_dflt (refine call_bytes_bytes ?_); intro _))
section
variable {w : World} {p : Program} {loose : List Str} {mean : ExcName → Option Value} {mg mb : Str → Option Value} {base : Heap} {news : List (Addr × Obj)}
abbrev tagD (w : World) (k pr d v : Value) (t1 t2 t3 t4 : Tok) : Obj := dictOf [⟨PyData.keyHash w.params (Str.ofString "kind"), .str (Str.ofString "kind") t1, k⟩, ⟨PyData.keyHash w.params (Str.ofString "priority"), .str (Str.ofString "priority") t2, pr⟩, ⟨PyData.keyHash w.params (Str.ofString "may_drop"), .str (Str.ofString "may_drop") t3, d⟩, ⟨PyData.keyHash w.params (Str.ofString "vlan"), .str (Str.ofString "vlan") t4, v⟩] 4
abbrev frameD (w : World) (x y ts kd b : Value) (t1 t2 t3 t4 t5 : Tok) : Obj := dictOf [⟨PyData.keyHash w.params (Str.ofString "target"), .str (Str.ofString "target") t1, x⟩, ⟨PyData.keyHash w.params (Str.ofString "source"), .str (Str.ofString "source") t2, y⟩, ⟨PyData.keyHash w.params (Str.ofString "tags"), .str (Str.ofString "tags") t3, ts⟩, ⟨PyData.keyHash w.params (Str.ofString "kind"), .str (Str.ofString "kind") t4, kd⟩, ⟨PyData.keyHash w.params (Str.ofString "payload"), .str (Str.ofString "payload") t5, b⟩] 5
inductive Ptag_con (w : World) (news : List (Addr × Obj)) (k : Value) (pr : Value) (d : Value) (v : Value) (r : Value) (news' : List (Addr × Obj)) : Prop
  | mk (x dx t1 t2 t3 t4) (f1 : r = .ref x) (f2 : news' = (x, instObj 230 dx) :: (dx, tagD w k pr d v t1 t2 t3 t4) :: news) (f3 : (∀ p ∈ news, p.1 < dx)) (f4 : dx < x)
theorem tag_con (XB : (Lw.head.heap_1 w.params).In base) (TB : Top p loose mean mg mb base) (k pr d v : Value) :
    Con w base 20 100 230 [k, pr, d, v] news (Ptag_con w news k pr d v) (fun _ => False) := by
  w_on
  k_dflt (refine' con_classQ (fI := 220) (binds := fun x => [(Str.ofString "self", .ref x), (Str.ofString "kind", k), (Str.ofString "priority", pr), (Str.ofString "may_drop", d), (Str.ofString "vlan", v)]) XB TB ?m ?i ?f ?ho ?hcd ?hb ?hl ?hn ?_ ?c1 ?c2 ?c3 ?c4)
  case m => k_is
  case i => k_is
  case f => k_is
  case ho => k_is
  case hcd => k_is
  case hb => intro _ _ _; exact BindsTo.of_eq rfl
  case hl => intro x; exact locs rfl
  case hn => first | decide | omega
  case c1 => decide
  case c2 => rfl
  case c3 => rfl
  case c4 => rfl
  intro dp un gd l sh9 sg9 sd9 sk9 so9 g L' h' x' d' Q1 E1 hdp hun AN F' N' l1 l2 l3 B' D' X' T' TT hQ1 hE1
  (try k_lt2 l2)
  (try k_lt2 l3)
  (try dsimp only)
  (try k_fold)
  (all_goals (repeat ((with_reducible refine OQ.use (by assumption) ?_); (try dsimp only))))
  w_strict (k_steps)
  (all_goals (repeat ((with_reducible refine OQ.use (by assumption) ?_); (try dsimp only))))
  (all_goals (repeat ((with_reducible refine OQ.use (by assumption) ?_); (try dsimp only))))
  exact end_c (by k_asm) (by k_asm) TT ⟨rfl, _, _, _, _, _, _, rfl, rfl, l1, l2⟩
inductive Pframe_con (w : World) (news : List (Addr × Obj)) (x : Value) (y : Value) (kd : Value) (ta : Addr) (vs : List Value) (n : Nat) (b : Array UInt8) (r : Value) (news' : List (Addr × Obj)) : Prop
  | mk (z dx t1 t2 t3 t4 t5 tb') (f1 : r = .ref z) (f2 : news' = (z, instObj 264 dx) :: (dx, frameD w x y (.ref ta) kd (.bytes b tb') t1 t2 t3 t4 t5) :: (ta, ⟨Value.type "tuple", none, Data.seq vs.toArray n, #[]⟩) :: news) (f3 : ta < dx) (f4 : (∀ p ∈ news, p.1 < dx)) (f5 : dx < z)
theorem frame_con (XB : (Lw.head.heap_1 w.params).In base) (TB : Top p loose mean mg mb base) (x y kd : Value) (ta : Addr) (vs : List Value) (n : Nat) (b : Array UInt8) (tb : Tok) :
    Con w base 20 100 264 [x, y, .ref ta, kd, .bytes b tb] ((ta, ⟨Value.type "tuple", none, Data.seq vs.toArray n, #[]⟩) :: news) (Pframe_con w news x y kd ta vs n b) (fun _ => False) := by
  w_on
  k_dflt (refine' con_classQ (fI := 248) (binds := fun z => [(Str.ofString "self", .ref z), (Str.ofString "target", x), (Str.ofString "source", y), (Str.ofString "tags", .ref ta), (Str.ofString "kind", kd), (Str.ofString "payload", .bytes b tb)]) XB TB ?m ?i ?f ?ho ?hcd ?hb ?hl ?hn ?_ ?c1 ?c2 ?c3 ?c4)
  case m => k_is
  case i => k_is
  case f => k_is
  case ho => k_is
  case hcd => k_is
  case hb => intro _ _ _; exact BindsTo.of_eq rfl
  case hl => intro x; exact locs rfl
  case hn => first | decide | omega
  case c1 => decide
  case c2 => rfl
  case c3 => rfl
  case c4 => rfl
  intro dp un gd l sh9 sg9 sd9 sk9 so9 g L' h' x' d' Q1 E1 hdp hun AN F' N' l1 l2 l3 B' D' X' T' TT hQ1 hE1
  (try k_lt2 l2)
  (try k_lt2 l3)
  (try dsimp only)
  (try k_fold)
  have l0 : ∀ p ∈ news, p.1 < d' := fun p hp => l1 p (List.mem_cons_of_mem _ hp)
  k_lt l1
  (all_goals (repeat ((with_reducible refine OQ.use (by assumption) ?_); (try dsimp only))))
  w_strict (k_steps)
  (all_goals (repeat ((with_reducible refine OQ.use (by assumption) ?_); (try dsimp only))))
  (all_goals (repeat ((with_reducible refine OQ.use (by assumption) ?_); (try dsimp only))))
  exact end_c (by k_asm) (by k_asm) TT ⟨rfl, _, _, _, _, _, _, _, _, rfl, rfl, l1.1, l0, l2⟩
end
local macro_rules | `(tactic| walk_at "binaryOp BitOr int int") => `(tactic| (k_here; k_dflt (first
  | ((with_reducible show wpAny _ _ (binaryOp Operator.BitOr (Value.int (_ * 2 ^ 8) _) (Value.int _ _)) _ _ _); (refine or_d 8 256 (by decide) (by omega) (by omega) (by omega) ?_))
  | (refine or_modd 13 8192 (by decide) (by omega) (by omega) (by omega) (by omega) ?_) | (refine or_modd 12 4096 (by decide) (by omega) (by omega) (by omega) (by omega) ?_))))
section
variable {w : World} {p : Program} {loose : List Str} {mean : ExcName → Option Value} {mg mb : Str → Option Value} {base : Heap} {news : List (Addr × Obj)}
theorem kinds_in {prog : Program} {A : Around} {s : Shared} {E : Value → Shared → Prop} {g : Heap} {L' : Addr} {m' : Str → Option Value} {k : Int} {t : Tok} {Q : Value → Shared → Prop} (F : Fr g L' s.heap m') (X : (Lw.head.heap_1 w.params).In g)
    (h : Q (.bool ([(33024 : Int), 34984].any (· == k))) s) : wpAny (model prog w) A (compareOp .In (.int k t) (.ref 206)) Q E s := by
  k_dflt (refine' in_tuple_ints (ns := [33024, 34984]) (tupK (X.keeps F.keep) ?l) ?i h)
  case l => k_is
  case i => l_ints
theorem kinds_notin {prog : Program} {A : Around} {s : Shared} {E : Value → Shared → Prop} {g : Heap} {L' : Addr} {m' : Str → Option Value} {k : Int} {t : Tok} {Q : Value → Shared → Prop} (F : Fr g L' s.heap m') (X : (Lw.head.heap_1 w.params).In g)
    (h : Q (.bool (!([(33024 : Int), 34984].any (· == k)))) s) : wpAny (model prog w) A (compareOp .NotIn (.int k t) (.ref 206)) Q E s := by
  k_dflt (refine' notin_tuple_ints (ns := [33024, 34984]) (tupK (X.keeps F.keep) ?l) ?i h)
  case l => k_is
  case i => l_ints
theorem kinds_yes {k : Int} (h : k = 33024 ∨ k = 34984) : ([(33024 : Int), 34984].any (· == k)) = true := by
  rcases h with rfl | rfl <;> rfl
theorem kinds_no {k : Int} (h1 : k ≠ 33024) (h2 : k ≠ 34984) : ([(33024 : Int), 34984].any (· == k)) = false := by
  simp only [List.any_cons, List.any_nil, Bool.or_false, Bool.or_eq_false_iff, beq_eq_false_iff_ne]
  exact ⟨Ne.symm h1, Ne.symm h2⟩
local macro_rules | `(tactic| walk_at "compareOp NotIn int ref") => `(tactic| (k_here; (with_reducible show wpAny _ _ (compareOp CmpOp.NotIn (Value.int _ _) (Value.ref 206)) _ _ _); k_dflt (refine kinds_notin (by k_asm) (by k_asm) ?_); first | rw [kinds_yes (by omega)] | rw [kinds_no (by omega) (by omega)]; dsimp only [Bool.not_true, Bool.not_false]))
local macro_rules | `(tactic| walk_at "compareOp In int ref") => `(tactic| (k_here; (with_reducible show wpAny _ _ (compareOp CmpOp.In (Value.int _ _) (Value.ref 206)) _ _ _); k_dflt (refine kinds_in (by k_asm) (by k_asm) ?_); first | rw [kinds_yes (by omega)] | rw [kinds_no (by omega) (by omega)]))
abbrev tagB (k p : Int) (d : Bool) (v : Int) : List Int := be2 k ++ be2 (p * 8192 + (if d then 4096 else 0) + v)
theorem packtag_f (XB : (Lw.head.heap_1 w.params).In base) (TB : Top p loose mean mg mb base) (a dx : Addr) (k pr v : Int) (t1 t2 t3 t4 t5 t6 t7 : Tok) (hk : k = 33024 ∨ k = 34984) (hp0 : 0 ≤ pr) (hp1 : pr ≤ 7) (hv0 : 0 ≤ v) (hv1 : v < 4095) :
    Con w base 40 400 275 [.ref a] ((a, instObj 230 dx) :: (dx, tagD w (.int k t5) (.int pr t6) (.bool false) (.int v t7) t1 t2 t3 t4) :: news) (fun r news' => news' = (a, instObj 230 dx) :: (dx, tagD w (.int k t5) (.int pr t6) (.bool false) (.int v t7) t1 t2 t3 t4) :: news ∧ IsB r (tagB k pr false v)) (fun _ => False) := by
  w_on
  k_dflt (refine' con_defQ (binds := [(Str.ofString "tag", .ref a)]) XB TB ?ho ?hcd ?hb ?hl ?hn ?_ ?c1 ?c2 ?c3 ?c4)
  case ho => k_is
  case hcd => k_is
  case hb => intro _ _; first | exact BindsTo.of_eq rfl | exact binds_K (by assumption) rfl (by k_is) rfl rfl rfl
  case hl => exact locs rfl
  case hn => first | decide | omega
  case c1 => decide
  case c2 => rfl
  case c3 => rfl
  case c4 => rfl
  intro dp un gd l sh9 sg9 sd9 sk9 so9 g L' h' Q1 E1 hdp hun AN F' N' l1 B' D' X' T' TT hQ1 hE1
  (try dsimp only)
  (try k_fold)
  (all_goals (repeat ((with_reducible refine OQ.use (by assumption) ?_); (try dsimp only))))
  w_strict (k_steps)
  (all_goals (repeat ((with_reducible refine OQ.use (by assumption) ?_); (try dsimp only))))
  refine Stop.mk ?_
  refine opk (fun K9 hK9 => ?_)
  k_dflt (refine' con_step (put16good XB TB k _ (by first | decide | omega) (by first | decide | omega)) (by assumption) (by k_asm) (by k_asm) (by assumption) rfl rfl rfl ?hd30 ?hu30 ?hesc30 ?hret30)
  case hd30 => (dsimp only; first | exact dstep1 hdp rfl | exact dstep hdp rfl | omega)
  case hu30 => (dsimp only; first | exact dstep hun rfl | exact dstep1 hun rfl | omega)
  case hesc30 => exact fun _ _ _ _ q _ => q.elim
  intro r9 h' tk' news' F' N' P9
  (try k_sweep)
  (try dsimp only)
  obtain ⟨rfl, b1, tb1, rfl, hb1⟩ := P9
  (all_goals (repeat ((with_reducible refine OQ.use (by assumption) ?_); (try dsimp only))))
  w_strict (k_steps)
  (all_goals (repeat ((with_reducible refine OQ.use (by assumption) ?_); (try dsimp only))))
  refine Stop.mk ?_
  refine opk (fun K9 hK9 => ?_)
  k_dflt (refine' con_step (put16good XB TB _ _ (by first | decide | omega) (by first | decide | omega)) (by assumption) (by k_asm) (by k_asm) (by assumption) rfl rfl rfl ?hd31 ?hu31 ?hesc31 ?hret31)
  case hd31 => (dsimp only; first | exact dstep1 hdp rfl | exact dstep hdp rfl | omega)
  case hu31 => (dsimp only; first | exact dstep hun rfl | exact dstep1 hun rfl | omega)
  case hesc31 => exact fun _ _ _ _ q _ => q.elim
  intro r9 h' tk' news' F' N' P9
  (try k_sweep)
  (try dsimp only)
  obtain ⟨rfl, b2, tb2, rfl, hb2⟩ := P9
  (all_goals (repeat ((with_reducible refine OQ.use (by assumption) ?_); (try dsimp only))))
  w_strict (k_steps)
  (all_goals (repeat ((with_reducible refine OQ.use (by assumption) ?_); (try dsimp only))))
  (all_goals (repeat ((with_reducible refine OQ.use (by assumption) ?_); (try dsimp only))))
  refine end_c (by k_asm) (by k_asm) TT ⟨rfl, _, _, rfl, (KBw.ints_app hb1 hb2).trans ?_⟩
  unfold tagB
  refine congrArg (be2 k ++ ·) (congrArg be2 ?_)
  simp only [Bool.false_eq_true, if_false]
  omega
theorem packtag_t (XB : (Lw.head.heap_1 w.params).In base) (TB : Top p loose mean mg mb base) (a dx : Addr) (k pr v : Int) (t1 t2 t3 t4 t5 t6 t7 : Tok) (hk : k = 33024 ∨ k = 34984) (hp0 : 0 ≤ pr) (hp1 : pr ≤ 7) (hv0 : 0 ≤ v) (hv1 : v < 4095) :
    Con w base 40 400 275 [.ref a] ((a, instObj 230 dx) :: (dx, tagD w (.int k t5) (.int pr t6) (.bool true) (.int v t7) t1 t2 t3 t4) :: news) (fun r news' => news' = (a, instObj 230 dx) :: (dx, tagD w (.int k t5) (.int pr t6) (.bool true) (.int v t7) t1 t2 t3 t4) :: news ∧ IsB r (tagB k pr true v)) (fun _ => False) := by
  w_on
  k_dflt (refine' con_defQ (binds := [(Str.ofString "tag", .ref a)]) XB TB ?ho ?hcd ?hb ?hl ?hn ?_ ?c1 ?c2 ?c3 ?c4)
  case ho => k_is
  case hcd => k_is
  case hb => intro _ _; first | exact BindsTo.of_eq rfl | exact binds_K (by assumption) rfl (by k_is) rfl rfl rfl
  case hl => exact locs rfl
  case hn => first | decide | omega
  case c1 => decide
  case c2 => rfl
  case c3 => rfl
  case c4 => rfl
  intro dp un gd l sh9 sg9 sd9 sk9 so9 g L' h' Q1 E1 hdp hun AN F' N' l1 B' D' X' T' TT hQ1 hE1
  (try dsimp only)
  (try k_fold)
  (all_goals (repeat ((with_reducible refine OQ.use (by assumption) ?_); (try dsimp only))))
  w_strict (k_steps)
  (all_goals (repeat ((with_reducible refine OQ.use (by assumption) ?_); (try dsimp only))))
  refine Stop.mk ?_
  refine opk (fun K9 hK9 => ?_)
  k_dflt (refine' con_step (put16good XB TB k _ (by first | decide | omega) (by first | decide | omega)) (by assumption) (by k_asm) (by k_asm) (by assumption) rfl rfl rfl ?hd33 ?hu33 ?hesc33 ?hret33)
  case hd33 => (dsimp only; first | exact dstep1 hdp rfl | exact dstep hdp rfl | omega)
  case hu33 => (dsimp only; first | exact dstep hun rfl | exact dstep1 hun rfl | omega)
  case hesc33 => exact fun _ _ _ _ q _ => q.elim
  intro r9 h' tk' news' F' N' P9
  (try k_sweep)
  (try dsimp only)
  obtain ⟨rfl, b1, tb1, rfl, hb1⟩ := P9
  (all_goals (repeat ((with_reducible refine OQ.use (by assumption) ?_); (try dsimp only))))
  w_strict (k_steps)
  (all_goals (repeat ((with_reducible refine OQ.use (by assumption) ?_); (try dsimp only))))
  refine Stop.mk ?_
  refine opk (fun K9 hK9 => ?_)
  k_dflt (refine' con_step (put16good XB TB _ _ (by first | decide | omega) (by first | decide | omega)) (by assumption) (by k_asm) (by k_asm) (by assumption) rfl rfl rfl ?hd34 ?hu34 ?hesc34 ?hret34)
  case hd34 => (dsimp only; first | exact dstep1 hdp rfl | exact dstep hdp rfl | omega)
  case hu34 => (dsimp only; first | exact dstep hun rfl | exact dstep1 hun rfl | omega)
  case hesc34 => exact fun _ _ _ _ q _ => q.elim
  intro r9 h' tk' news' F' N' P9
  (try k_sweep)
  (try dsimp only)
  obtain ⟨rfl, b2, tb2, rfl, hb2⟩ := P9
  (all_goals (repeat ((with_reducible refine OQ.use (by assumption) ?_); (try dsimp only))))
  w_strict (k_steps)
  (all_goals (repeat ((with_reducible refine OQ.use (by assumption) ?_); (try dsimp only))))
  (all_goals (repeat ((with_reducible refine OQ.use (by assumption) ?_); (try dsimp only))))
  refine end_c (by k_asm) (by k_asm) TT ⟨rfl, _, _, rfl, (KBw.ints_app hb1 hb2).trans ?_⟩
  unfold tagB
  refine congrArg (be2 k ++ ·) (congrArg be2 ?_)
  simp only [if_true]
  omega
theorem packtag_good (XB : (Lw.head.heap_1 w.params).In base) (TB : Top p loose mean mg mb base) (a dx : Addr) (k pr v : Int) (d : Bool) (t1 t2 t3 t4 t5 t6 t7 : Tok) (hk : k = 33024 ∨ k = 34984) (hp0 : 0 ≤ pr) (hp1 : pr ≤ 7) (hv0 : 0 ≤ v) (hv1 : v < 4095) :
    Con w base 40 400 275 [.ref a] ((a, instObj 230 dx) :: (dx, tagD w (.int k t5) (.int pr t6) (.bool d) (.int v t7) t1 t2 t3 t4) :: news) (fun r news' => news' = (a, instObj 230 dx) :: (dx, tagD w (.int k t5) (.int pr t6) (.bool d) (.int v t7) t1 t2 t3 t4) :: news ∧ IsB r (tagB k pr d v)) (fun _ => False) := by
  cases d
  · exact packtag_f XB TB a dx k pr v t1 t2 t3 t4 t5 t6 t7 hk hp0 hp1 hv0 hv1
  · exact packtag_t XB TB a dx k pr v t1 t2 t3 t4 t5 t6 t7 hk hp0 hp1 hv0 hv1
theorem packtag_bad1 (XB : (Lw.head.heap_1 w.params).In base) (TB : Top p loose mean mg mb base) (a dx : Addr) (k pr v : Int) (d : Bool) (t1 t2 t3 t4 t5 t6 t7 : Tok) (hk : k ≠ 33024) (hk2 : k ≠ 34984) :
    Con w base 40 400 275 [.ref a] ((a, instObj 230 dx) :: (dx, tagD w (.int k t5) (.int pr t6) (.bool d) (.int v t7) t1 t2 t3 t4) :: news) (fun r news' => False) (fun c => c = .ref 163) := by
  w_on
  k_dflt (refine' con_defQ (binds := [(Str.ofString "tag", .ref a)]) XB TB ?ho ?hcd ?hb ?hl ?hn ?_ ?c1 ?c2 ?c3 ?c4)
  case ho => k_is
  case hcd => k_is
  case hb => intro _ _; first | exact BindsTo.of_eq rfl | exact binds_K (by assumption) rfl (by k_is) rfl rfl rfl
  case hl => exact locs rfl
  case hn => first | decide | omega
  case c1 => decide
  case c2 => rfl
  case c3 => rfl
  case c4 => rfl
  intro dp un gd l sh9 sg9 sd9 sk9 so9 g L' h' Q1 E1 hdp hun AN F' N' l1 B' D' X' T' TT hQ1 hE1
  (try dsimp only)
  (try k_fold)
  (all_goals (repeat ((with_reducible refine OQ.use (by assumption) ?_); (try dsimp only))))
  w_strict (k_steps)
  (all_goals (repeat ((with_reducible refine OQ.use (by assumption) ?_); (try dsimp only))))
theorem packtag_bad2 (XB : (Lw.head.heap_1 w.params).In base) (TB : Top p loose mean mg mb base) (a dx : Addr) (k pr v : Int) (d : Bool) (t1 t2 t3 t4 t5 t6 t7 : Tok) (hk : k = 33024 ∨ k = 34984) (hp : pr < 0) :
    Con w base 40 400 275 [.ref a] ((a, instObj 230 dx) :: (dx, tagD w (.int k t5) (.int pr t6) (.bool d) (.int v t7) t1 t2 t3 t4) :: news) (fun r news' => False) (fun c => c = .ref 163) := by
  w_on
  k_dflt (refine' con_defQ (binds := [(Str.ofString "tag", .ref a)]) XB TB ?ho ?hcd ?hb ?hl ?hn ?_ ?c1 ?c2 ?c3 ?c4)
  case ho => k_is
  case hcd => k_is
  case hb => intro _ _; first | exact BindsTo.of_eq rfl | exact binds_K (by assumption) rfl (by k_is) rfl rfl rfl
  case hl => exact locs rfl
  case hn => first | decide | omega
  case c1 => decide
  case c2 => rfl
  case c3 => rfl
  case c4 => rfl
  intro dp un gd l sh9 sg9 sd9 sk9 so9 g L' h' Q1 E1 hdp hun AN F' N' l1 B' D' X' T' TT hQ1 hE1
  (try dsimp only)
  (try k_fold)
  (all_goals (repeat ((with_reducible refine OQ.use (by assumption) ?_); (try dsimp only))))
  w_strict (k_steps)
  (all_goals (repeat ((with_reducible refine OQ.use (by assumption) ?_); (try dsimp only))))
theorem packtag_bad3 (XB : (Lw.head.heap_1 w.params).In base) (TB : Top p loose mean mg mb base) (a dx : Addr) (k pr v : Int) (d : Bool) (t1 t2 t3 t4 t5 t6 t7 : Tok) (hk : k = 33024 ∨ k = 34984) (hp : 7 < pr) :
    Con w base 40 400 275 [.ref a] ((a, instObj 230 dx) :: (dx, tagD w (.int k t5) (.int pr t6) (.bool d) (.int v t7) t1 t2 t3 t4) :: news) (fun r news' => False) (fun c => c = .ref 163) := by
  w_on
  k_dflt (refine' con_defQ (binds := [(Str.ofString "tag", .ref a)]) XB TB ?ho ?hcd ?hb ?hl ?hn ?_ ?c1 ?c2 ?c3 ?c4)
  case ho => k_is
  case hcd => k_is
  case hb => intro _ _; first | exact BindsTo.of_eq rfl | exact binds_K (by assumption) rfl (by k_is) rfl rfl rfl
  case hl => exact locs rfl
  case hn => first | decide | omega
  case c1 => decide
  case c2 => rfl
  case c3 => rfl
  case c4 => rfl
  intro dp un gd l sh9 sg9 sd9 sk9 so9 g L' h' Q1 E1 hdp hun AN F' N' l1 B' D' X' T' TT hQ1 hE1
  (try dsimp only)
  (try k_fold)
  (all_goals (repeat ((with_reducible refine OQ.use (by assumption) ?_); (try dsimp only))))
  w_strict (k_steps)
  (all_goals (repeat ((with_reducible refine OQ.use (by assumption) ?_); (try dsimp only))))
theorem packtag_bad4 (XB : (Lw.head.heap_1 w.params).In base) (TB : Top p loose mean mg mb base) (a dx : Addr) (k pr v : Int) (d : Bool) (t1 t2 t3 t4 t5 t6 t7 : Tok) (hk : k = 33024 ∨ k = 34984) (hp0 : 0 ≤ pr) (hp1 : pr ≤ 7) (hv0 : v < 0) :
    Con w base 40 400 275 [.ref a] ((a, instObj 230 dx) :: (dx, tagD w (.int k t5) (.int pr t6) (.bool d) (.int v t7) t1 t2 t3 t4) :: news) (fun r news' => False) (fun c => c = .ref 163) := by
  w_on
  k_dflt (refine' con_defQ (binds := [(Str.ofString "tag", .ref a)]) XB TB ?ho ?hcd ?hb ?hl ?hn ?_ ?c1 ?c2 ?c3 ?c4)
  case ho => k_is
  case hcd => k_is
  case hb => intro _ _; first | exact BindsTo.of_eq rfl | exact binds_K (by assumption) rfl (by k_is) rfl rfl rfl
  case hl => exact locs rfl
  case hn => first | decide | omega
  case c1 => decide
  case c2 => rfl
  case c3 => rfl
  case c4 => rfl
  intro dp un gd l sh9 sg9 sd9 sk9 so9 g L' h' Q1 E1 hdp hun AN F' N' l1 B' D' X' T' TT hQ1 hE1
  (try dsimp only)
  (try k_fold)
  (all_goals (repeat ((with_reducible refine OQ.use (by assumption) ?_); (try dsimp only))))
  w_strict (k_steps)
  (all_goals (repeat ((with_reducible refine OQ.use (by assumption) ?_); (try dsimp only))))
theorem packtag_bad5 (XB : (Lw.head.heap_1 w.params).In base) (TB : Top p loose mean mg mb base) (a dx : Addr) (k pr v : Int) (d : Bool) (t1 t2 t3 t4 t5 t6 t7 : Tok) (hk : k = 33024 ∨ k = 34984) (hp0 : 0 ≤ pr) (hp1 : pr ≤ 7) (hv0 : 0 ≤ v) (hv1 : 4095 ≤ v) :
    Con w base 40 400 275 [.ref a] ((a, instObj 230 dx) :: (dx, tagD w (.int k t5) (.int pr t6) (.bool d) (.int v t7) t1 t2 t3 t4) :: news) (fun r news' => False) (fun c => c = .ref 163) := by
  w_on
  k_dflt (refine' con_defQ (binds := [(Str.ofString "tag", .ref a)]) XB TB ?ho ?hcd ?hb ?hl ?hn ?_ ?c1 ?c2 ?c3 ?c4)
  case ho => k_is
  case hcd => k_is
  case hb => intro _ _; first | exact BindsTo.of_eq rfl | exact binds_K (by assumption) rfl (by k_is) rfl rfl rfl
  case hl => exact locs rfl
  case hn => first | decide | omega
  case c1 => decide
  case c2 => rfl
  case c3 => rfl
  case c4 => rfl
  intro dp un gd l sh9 sg9 sd9 sk9 so9 g L' h' Q1 E1 hdp hun AN F' N' l1 B' D' X' T' TT hQ1 hE1
  (try dsimp only)
  (try k_fold)
  (all_goals (repeat ((with_reducible refine OQ.use (by assumption) ?_); (try dsimp only))))
  w_strict (k_steps)
  (all_goals (repeat ((with_reducible refine OQ.use (by assumption) ?_); (try dsimp only))))
end
local macro_rules | `(tactic| walk_at "compareOp NotIn int ref") => `(tactic| (k_here; (with_reducible show wpAny _ _ (compareOp CmpOp.NotIn (Value.int _ _) (Value.ref 206)) _ _ _); k_dflt (refine kinds_notin (by k_asm) (by k_asm) ?_); first | rw [kinds_yes (by omega)] | rw [kinds_no (by omega) (by omega)]; dsimp only [Bool.not_true, Bool.not_false]))
local macro_rules | `(tactic| walk_at "compareOp In int ref") => `(tactic| (k_here; (with_reducible show wpAny _ _ (compareOp CmpOp.In (Value.int _ _) (Value.ref 206)) _ _ _); k_dflt (refine kinds_in (by k_asm) (by k_asm) ?_); first | rw [kinds_yes (by omega)] | rw [kinds_no (by omega) (by omega)]))
section
variable {w : World} {p : Program} {loose : List Str} {mean : ExcName → Option Value} {mg mb : Str → Option Value} {base : Heap} {news : List (Addr × Obj)}
theorem packkind_none (XB : (Lw.head.heap_1 w.params).In base) (TB : Top p loose mean mg mb base) (a dx : Addr) (x y ts : Value) (b : Array UInt8) (ks : List Int) (tb t1 t2 t3 t4 t5 : Tok) (hb : KBw.bInts b = ks) (hl : ks.length ≤ 1500) :
    Con w base 40 400 282 [.ref a] ((a, instObj 264 dx) :: (dx, frameD w x y ts .none (.bytes b tb) t1 t2 t3 t4 t5) :: news) (fun r news' => news' = (a, instObj 264 dx) :: (dx, frameD w x y ts .none (.bytes b tb) t1 t2 t3 t4 t5) :: news ∧ IsB r (be2 ks.length)) (fun _ => False) := by
  w_on
  k_dflt (refine' con_defQ (binds := [(Str.ofString "frame", .ref a)]) XB TB ?ho ?hcd ?hb ?hl ?hn ?_ ?c1 ?c2 ?c3 ?c4)
  case ho => k_is
  case hcd => k_is
  case hb => intro _ _; first | exact BindsTo.of_eq rfl | exact binds_K (by assumption) rfl (by k_is) rfl rfl rfl
  case hl => exact locs rfl
  case hn => first | decide | omega
  case c1 => decide
  case c2 => rfl
  case c3 => rfl
  case c4 => rfl
  intro dp un gd l sh9 sg9 sd9 sk9 so9 g L' h' Q1 E1 hdp hun AN F' N' l1 B' D' X' T' TT hQ1 hE1
  (try dsimp only)
  (try k_fold)
  (all_goals (repeat ((with_reducible refine OQ.use (by assumption) ?_); (try dsimp only))))
  w_strict (k_steps)
  (all_goals (repeat ((with_reducible refine OQ.use (by assumption) ?_); (try dsimp only))))
  refine Stop.mk ?_
  refine opk (fun K9 hK9 => ?_)
  k_dflt (refine' con_step (put16good XB TB _ _ (by first | decide | omega) (by first | decide | omega)) (by assumption) (by k_asm) (by k_asm) (by assumption) rfl rfl rfl ?hd41 ?hu41 ?hesc41 ?hret41)
  case hd41 => (dsimp only; first | exact dstep1 hdp rfl | exact dstep hdp rfl | omega)
  case hu41 => (dsimp only; first | exact dstep hun rfl | exact dstep1 hun rfl | omega)
  case hesc41 => exact fun _ _ _ _ q _ => q.elim
  intro r9 h' tk' news' F' N' P9
  (try k_sweep)
  (try dsimp only)
  obtain ⟨rfl, b1, tb1, rfl, hb1⟩ := P9
  (all_goals (repeat ((with_reducible refine OQ.use (by assumption) ?_); (try dsimp only))))
  w_strict (k_steps)
  (all_goals (repeat ((with_reducible refine OQ.use (by assumption) ?_); (try dsimp only))))
  (all_goals (repeat ((with_reducible refine OQ.use (by assumption) ?_); (try dsimp only))))
  exact end_c (by k_asm) (by k_asm) TT ⟨rfl, _, _, rfl, hb1⟩
theorem packkind_noneB (XB : (Lw.head.heap_1 w.params).In base) (TB : Top p loose mean mg mb base) (a dx : Addr) (x y ts : Value) (b : Array UInt8) (ks : List Int) (tb t1 t2 t3 t4 t5 : Tok) (hb : KBw.bInts b = ks) (hl : 1500 < ks.length) (hl2 : ks.length ≤ 100000) :
    Con w base 40 400 282 [.ref a] ((a, instObj 264 dx) :: (dx, frameD w x y ts .none (.bytes b tb) t1 t2 t3 t4 t5) :: news) (fun r news' => False) (fun c => c = .ref 163) := by
  w_on
  k_dflt (refine' con_defQ (binds := [(Str.ofString "frame", .ref a)]) XB TB ?ho ?hcd ?hb ?hl ?hn ?_ ?c1 ?c2 ?c3 ?c4)
  case ho => k_is
  case hcd => k_is
  case hb => intro _ _; first | exact BindsTo.of_eq rfl | exact binds_K (by assumption) rfl (by k_is) rfl rfl rfl
  case hl => exact locs rfl
  case hn => first | decide | omega
  case c1 => decide
  case c2 => rfl
  case c3 => rfl
  case c4 => rfl
  intro dp un gd l sh9 sg9 sd9 sk9 so9 g L' h' Q1 E1 hdp hun AN F' N' l1 B' D' X' T' TT hQ1 hE1
  (try dsimp only)
  (try k_fold)
  (all_goals (repeat ((with_reducible refine OQ.use (by assumption) ?_); (try dsimp only))))
  w_strict (k_steps)
  (all_goals (repeat ((with_reducible refine OQ.use (by assumption) ?_); (try dsimp only))))
theorem packkind_int (XB : (Lw.head.heap_1 w.params).In base) (TB : Top p loose mean mg mb base) (a dx : Addr) (x y ts : Value) (b : Array UInt8) (ks : List Int) (tb t1 t2 t3 t4 t5 : Tok) (hb : KBw.bInts b = ks) (k : Int) (tk : Tok) (h0 : 1536 ≤ k) (h1 : k < 65536) (h2 : k ≠ 33024) (h3 : k ≠ 34984) :
    Con w base 40 400 282 [.ref a] ((a, instObj 264 dx) :: (dx, frameD w x y ts (.int k tk) (.bytes b tb) t1 t2 t3 t4 t5) :: news) (fun r news' => news' = (a, instObj 264 dx) :: (dx, frameD w x y ts (.int k tk) (.bytes b tb) t1 t2 t3 t4 t5) :: news ∧ IsB r (be2 k)) (fun _ => False) := by
  w_on
  k_dflt (refine' con_defQ (binds := [(Str.ofString "frame", .ref a)]) XB TB ?ho ?hcd ?hb ?hl ?hn ?_ ?c1 ?c2 ?c3 ?c4)
  case ho => k_is
  case hcd => k_is
  case hb => intro _ _; first | exact BindsTo.of_eq rfl | exact binds_K (by assumption) rfl (by k_is) rfl rfl rfl
  case hl => exact locs rfl
  case hn => first | decide | omega
  case c1 => decide
  case c2 => rfl
  case c3 => rfl
  case c4 => rfl
  intro dp un gd l sh9 sg9 sd9 sk9 so9 g L' h' Q1 E1 hdp hun AN F' N' l1 B' D' X' T' TT hQ1 hE1
  (try dsimp only)
  (try k_fold)
  (all_goals (repeat ((with_reducible refine OQ.use (by assumption) ?_); (try dsimp only))))
  w_strict (k_steps)
  (all_goals (repeat ((with_reducible refine OQ.use (by assumption) ?_); (try dsimp only))))
  refine Stop.mk ?_
  refine opk (fun K9 hK9 => ?_)
  k_dflt (refine' con_step (put16good XB TB _ _ (by first | decide | omega) (by first | decide | omega)) (by assumption) (by k_asm) (by k_asm) (by assumption) rfl rfl rfl ?hd44 ?hu44 ?hesc44 ?hret44)
  case hd44 => (dsimp only; first | exact dstep1 hdp rfl | exact dstep hdp rfl | omega)
  case hu44 => (dsimp only; first | exact dstep hun rfl | exact dstep1 hun rfl | omega)
  case hesc44 => exact fun _ _ _ _ q _ => q.elim
  intro r9 h' tk' news' F' N' P9
  (try k_sweep)
  (try dsimp only)
  obtain ⟨rfl, b1, tb1, rfl, hb1⟩ := P9
  (all_goals (repeat ((with_reducible refine OQ.use (by assumption) ?_); (try dsimp only))))
  w_strict (k_steps)
  (all_goals (repeat ((with_reducible refine OQ.use (by assumption) ?_); (try dsimp only))))
  (all_goals (repeat ((with_reducible refine OQ.use (by assumption) ?_); (try dsimp only))))
  exact end_c (by k_asm) (by k_asm) TT ⟨rfl, _, _, rfl, hb1⟩
theorem packkind_intB1 (XB : (Lw.head.heap_1 w.params).In base) (TB : Top p loose mean mg mb base) (a dx : Addr) (x y ts : Value) (b : Array UInt8) (ks : List Int) (tb t1 t2 t3 t4 t5 : Tok) (hb : KBw.bInts b = ks) (k : Int) (tk : Tok) (h0 : 0 ≤ k) (h1 : k < 1536) :
    Con w base 40 400 282 [.ref a] ((a, instObj 264 dx) :: (dx, frameD w x y ts (.int k tk) (.bytes b tb) t1 t2 t3 t4 t5) :: news) (fun r news' => False) (fun c => c = .ref 163) := by
  w_on
  k_dflt (refine' con_defQ (binds := [(Str.ofString "frame", .ref a)]) XB TB ?ho ?hcd ?hb ?hl ?hn ?_ ?c1 ?c2 ?c3 ?c4)
  case ho => k_is
  case hcd => k_is
  case hb => intro _ _; first | exact BindsTo.of_eq rfl | exact binds_K (by assumption) rfl (by k_is) rfl rfl rfl
  case hl => exact locs rfl
  case hn => first | decide | omega
  case c1 => decide
  case c2 => rfl
  case c3 => rfl
  case c4 => rfl
  intro dp un gd l sh9 sg9 sd9 sk9 so9 g L' h' Q1 E1 hdp hun AN F' N' l1 B' D' X' T' TT hQ1 hE1
  (try dsimp only)
  (try k_fold)
  (all_goals (repeat ((with_reducible refine OQ.use (by assumption) ?_); (try dsimp only))))
  w_strict (k_steps)
  (all_goals (repeat ((with_reducible refine OQ.use (by assumption) ?_); (try dsimp only))))
theorem packkind_intB2 (XB : (Lw.head.heap_1 w.params).In base) (TB : Top p loose mean mg mb base) (a dx : Addr) (x y ts : Value) (b : Array UInt8) (ks : List Int) (tb t1 t2 t3 t4 t5 : Tok) (hb : KBw.bInts b = ks) (k : Int) (tk : Tok) (h1 : k = 33024 ∨ k = 34984) :
    Con w base 40 400 282 [.ref a] ((a, instObj 264 dx) :: (dx, frameD w x y ts (.int k tk) (.bytes b tb) t1 t2 t3 t4 t5) :: news) (fun r news' => False) (fun c => c = .ref 163) := by
  w_on
  k_dflt (refine' con_defQ (binds := [(Str.ofString "frame", .ref a)]) XB TB ?ho ?hcd ?hb ?hl ?hn ?_ ?c1 ?c2 ?c3 ?c4)
  case ho => k_is
  case hcd => k_is
  case hb => intro _ _; first | exact BindsTo.of_eq rfl | exact binds_K (by assumption) rfl (by k_is) rfl rfl rfl
  case hl => exact locs rfl
  case hn => first | decide | omega
  case c1 => decide
  case c2 => rfl
  case c3 => rfl
  case c4 => rfl
  intro dp un gd l sh9 sg9 sd9 sk9 so9 g L' h' Q1 E1 hdp hun AN F' N' l1 B' D' X' T' TT hQ1 hE1
  (try dsimp only)
  (try k_fold)
  (all_goals (repeat ((with_reducible refine OQ.use (by assumption) ?_); (try dsimp only))))
  w_strict (k_steps)
  (all_goals (repeat ((with_reducible refine OQ.use (by assumption) ?_); (try dsimp only))))
theorem packkind_intB3 (XB : (Lw.head.heap_1 w.params).In base) (TB : Top p loose mean mg mb base) (a dx : Addr) (x y ts : Value) (b : Array UInt8) (ks : List Int) (tb t1 t2 t3 t4 t5 : Tok) (hb : KBw.bInts b = ks) (k : Int) (tk : Tok) (h1 : 65536 ≤ k) :
    Con w base 40 400 282 [.ref a] ((a, instObj 264 dx) :: (dx, frameD w x y ts (.int k tk) (.bytes b tb) t1 t2 t3 t4 t5) :: news) (fun r news' => False) (fun c => c = .ref 163) := by
  w_on
  k_dflt (refine' con_defQ (binds := [(Str.ofString "frame", .ref a)]) XB TB ?ho ?hcd ?hb ?hl ?hn ?_ ?c1 ?c2 ?c3 ?c4)
  case ho => k_is
  case hcd => k_is
  case hb => intro _ _; first | exact BindsTo.of_eq rfl | exact binds_K (by assumption) rfl (by k_is) rfl rfl rfl
  case hl => exact locs rfl
  case hn => first | decide | omega
  case c1 => decide
  case c2 => rfl
  case c3 => rfl
  case c4 => rfl
  intro dp un gd l sh9 sg9 sd9 sk9 so9 g L' h' Q1 E1 hdp hun AN F' N' l1 B' D' X' T' TT hQ1 hE1
  (try dsimp only)
  (try k_fold)
  (all_goals (repeat ((with_reducible refine OQ.use (by assumption) ?_); (try dsimp only))))
  w_strict (k_steps)
  (all_goals (repeat ((with_reducible refine OQ.use (by assumption) ?_); (try dsimp only))))
  refine Stop.mk ?_
  refine opk (fun K9 hK9 => ?_)
  k_dflt (refine' con_step (put16bad XB TB _ _ (by first | decide | omega) (by first | decide | omega)) (by assumption) (by k_asm) (by k_asm) (by assumption) rfl rfl rfl ?hd48 ?hu48 ?hesc48 ?hret48)
  case hd48 => (dsimp only; first | exact dstep1 hdp rfl | exact dstep hdp rfl | omega)
  case hu48 => (dsimp only; first | exact dstep hun rfl | exact dstep1 hun rfl | omega)
  case hesc48 =>
    refine con_pass2 (by first | exact fun _ _ x => x | (rename EQ9 _ _ => hE9; exact EQ9.pass hE9)) (by assumption) (by k_asm) (by k_asm) (by assumption) rfl ?sub48 rfl rfl ?pe48
    case sub48 => intro _ hq; repeat (first | exact hq | refine List.mem_cons_of_mem _ ?_)
    case pe48 => first | exact fun _ x => x | exact fun _ x => ⟨trivial, x⟩
  intro r9 h' tk' news' F' N' P9
  (try k_sweep)
  (try dsimp only)
  exact P9.elim
end
local macro_rules | `(tactic| walk_at "eval ListComp") => `(tactic| (k_here; (with_reducible show wpAny _ _ (eval (Expr.ListComp _ [⟨_, Expr.Attribute _ _ _, [], 0⟩] _ _) _) _ _ _); k_dflt (refine ListComp_T (F₀ := by k_asm) (by rfl) (by decide) (by rfl) (by decide) (by rfl) ?_)))
local macro_rules | `(tactic| walk_at "SrcT") => `(tactic| (k_here; k_dflt (refine SrcT.intro (by rfl) (by k_asm) (by k_asm) (by k_mem) (by exact Nat.le_of_ble_eq_true rfl) ?_; intro g'; lcg_lit)))
local macro_rules | `(tactic| walk_at "getMethod bytes") => `(tactic| (k_here; (with_reducible refine get_join ?_)))
local macro_rules | `(tactic| walk_at "call builtin:bytes.join") => `(tactic| (k_here; k_dflt (first
  | (refine call_join0 (by kba_isList) ?_; intro _ _)
  | (refine call_join1 (by kba_isList) ?_)
  | (refine call_join2 (by kba_isList) (by assumption) (by assumption) (by kba_size) ?_; intro _ _ _))))
section
variable {w : World} {p : Program} {loose : List Str} {mean : ExcName → Option Value} {mg mb : Str → Option Value} {base : Heap} {news : List (Addr × Obj)}
abbrev bodyB (x y : Int) (tg kb ks : List Int) : List Int := ((be6 x ++ be6 y) ++ tg) ++ kb ++ ks
abbrev fillB (l : List Int) : List Int := l ++ List.replicate (60 - l.length) 0
abbrev packB (x y : Int) (tg kb ks : List Int) : List Int := fillB (bodyB x y tg kb ks) ++ sumS (fillB (bodyB x y tg kb ks))
theorem fill_eq {l l' fl : List Int} {n : Nat} (e : l' = l) (hn : n = l.length) (hf : fl = fillB l) : l' ++ List.replicate ((if (60 : Int) - ((n : Nat) : Int) > 0 then (60 : Int) - ((n : Nat) : Int) else 0).toNat) 0 = fl := by
  subst e hf hn
  refine congrArg (l' ++ ·) (congrArg (List.replicate · 0) ?_)
  split <;> omega
theorem con_in {w : World} {base : Heap} {dn un' : Nat} {f : Addr} {vs : List Value} {pre l : List (Addr × Obj)} {P : Value → Prop} {PE : Value → Prop} (C : Con w base dn un' f vs (pre ++ l) (fun r news' => news' = pre ++ l ∧ P r) PE) (hm : ∀ p ∈ pre, p ∈ l) :
    Con w base dn un' f vs l (fun r news' => news' = l ∧ P r) PE := fun dp un gd cn cs a ccd cl outer A₀ h₀ L m s Q E B F N D hcs hdp hun hret hesc =>
  C dp un gd cn cs a ccd cl outer A₀ h₀ L m s Q E B F (fun q hq => (List.mem_append.mp hq).elim (fun h => N q (hm q h)) (N q)) D hcs hdp hun (fun r h' tk' news' x1 x2 x3 => by
    obtain ⟨rfl, x1⟩ := x1
    exact hret r h' tk' l ⟨rfl, x1⟩ x2 fun q hq => x3 q (List.mem_append_right _ hq)) hesc
theorem con_inN {w : World} {base : Heap} {dn un' : Nat} {f : Addr} {vs : List Value} {pre l : List (Addr × Obj)} {P : Value → List (Addr × Obj) → Prop} {PE : Value → Prop} (C : Con w base dn un' f vs (pre ++ l) (fun r news' => ∃ new, news' = new ++ (pre ++ l) ∧ P r new) PE) (hm : ∀ p ∈ pre, p ∈ l) :
    Con w base dn un' f vs l (fun r news' => ∃ new, news' = new ++ l ∧ P r new) PE := fun dp un gd cn cs a ccd cl outer A₀ h₀ L m s Q E B F N D hcs hdp hun hret hesc =>
  C dp un gd cn cs a ccd cl outer A₀ h₀ L m s Q E B F (fun q hq => (List.mem_append.mp hq).elim (fun h => N q (hm q h)) (N q)) D hcs hdp hun (fun r h' tk' news' x1 x2 x3 => by
    obtain ⟨new, rfl, x1⟩ := x1
    exact hret r h' tk' (new ++ l) ⟨new, rfl, x1⟩ x2 fun q hq => x3 q ((List.mem_append.mp hq).elim (List.mem_append_left _) fun h => List.mem_append_right _ (List.mem_append_right _ h))) hesc
inductive TagsIn (w : World) (l : List (Addr × Obj)) : List (Int × Int) → List Value → Prop
  | nil : TagsIn w l [] []
  | cons {g d : Addr} {p v : Int} {ua ub uc ud ue uf ug : Tok} {ps : List (Int × Int)} {vs : List Value} : (g, instObj 230 d) ∈ l → (d, tagD w (.int 33024 ue) (.int p uf) (.bool false) (.int v ug) ua ub uc ud) ∈ l → TagsIn w l ps vs → TagsIn w l ((p, v) :: ps) (.ref g :: vs)
theorem TagsIn.mono {l l' : List (Addr × Obj)} (h : ∀ p ∈ l, p ∈ l') : ∀ {ps : List (Int × Int)} {vs : List Value}, TagsIn w l ps vs → TagsIn w l' ps vs
  | _, _, .nil => .nil
  | _, _, .cons a b c => .cons (h _ a) (h _ b) (TagsIn.mono h c)
theorem TagsIn.length {l : List (Addr × Obj)} : ∀ {ps : List (Int × Int)} {vs : List Value}, TagsIn w l ps vs → vs.length = ps.length
  | _, _, .nil => rfl
  | _, _, .cons _ _ c => congrArg (· + 1) c.length
def TagsOk (ps : List (Int × Int)) : Prop := ∀ q ∈ ps, 0 ≤ q.1 ∧ q.1 ≤ 7 ∧ 0 ≤ q.2 ∧ q.2 < 4095
inductive FrameIn (w : World) (l : List (Addr × Obj)) (a : Addr) (x y : Int) (ps : List (Int × Int)) (kd : Value) (b : Array UInt8) : Prop
  | mk (dx ta vs n tx ty tb t1 t2 t3 t4 t5) (f1 : (a, instObj 264 dx) ∈ l) (f2 : (dx, frameD w (.int x tx) (.int y ty) (.ref ta) kd (.bytes b tb) t1 t2 t3 t4 t5) ∈ l) (f3 : (ta, (⟨Value.type "tuple", none, Data.seq (List.toArray vs) n, #[]⟩ : Obj)) ∈ l) (f4 : TagsIn w l ps vs)
theorem FrameIn.mono {l l' : List (Addr × Obj)} {a : Addr} {x y : Int} {ps : List (Int × Int)} {kd : Value} {b : Array UInt8} (h : ∀ p ∈ l, p ∈ l') (f : FrameIn w l a x y ps kd b) : FrameIn w l' a x y ps kd b := by
  obtain ⟨dx, ta, vs, n, tx, ty, tb, t1, t2, t3, t4, t5, h1, h2, h3, h4⟩ := f
  exact ⟨dx, ta, vs, n, tx, ty, tb, t1, t2, t3, t4, t5, h _ h1, h _ h2, h _ h3, h4.mono h⟩
def KindV (kd : Value) : Bool → Prop
  | true => kd = .none
  | false => ∃ t, kd = .int 2048 t
def kindB (ln : Bool) (n : Nat) : List Int := match ln with
  | true => be2 n
  | false => be2 2048
def tagsB : List (Int × Int) → List Int
  | [] => []
  | [q] => tagB 33024 q.1 false q.2
  | q :: r => tagB 33024 q.1 false q.2 ++ tagsB r
theorem tagsB_len : ∀ ps : List (Int × Int), (tagsB ps).length = 4 * ps.length
  | [] => rfl
  | [q] => rfl
  | q :: r :: t => by
    rw [tagsB, List.length_append, tagsB_len (r :: t)]
    · simp; omega
    · simp
theorem kindB_len (ln : Bool) (n : Nat) : (kindB ln n).length = 2 := by cases ln <;> rfl
theorem fillB_len (l : List Int) : (fillB l).length = max 60 l.length := by
  rw [List.length_append, List.length_replicate]; omega
theorem packB_len (x y : Int) (ps : List (Int × Int)) (ln : Bool) (n : Nat) (ks : List Int) : (packB x y (tagsB ps) (kindB ln n) ks).length = max 60 (14 + 4 * ps.length + ks.length) + 4 := by
  have e : (bodyB x y (tagsB ps) (kindB ln n) ks).length = 14 + 4 * ps.length + ks.length := by
    simp only [List.length_append, tagsB_len, kindB_len, List.length_cons, List.length_nil]; omega
  show (fillB _ ++ sumS _).length = _
  rw [List.length_append, fillB_len, e]
  rfl
theorem kind_con (XB : (Lw.head.heap_1 w.params).In base) (TB : Top p loose mean mg mb base) (a dx : Addr) (x y ts kd : Value) (b : Array UInt8) (ks : List Int) (tb t1 t2 t3 t4 t5 : Tok) (hb : KBw.bInts b = ks) (ln : Bool) (hk : KindV kd ln) (hl : ln = true → ks.length ≤ 1500) :
    ∀ news, Con w base 40 400 282 [.ref a] ((a, instObj 264 dx) :: (dx, frameD w x y ts kd (.bytes b tb) t1 t2 t3 t4 t5) :: news) (fun r news' => news' = (a, instObj 264 dx) :: (dx, frameD w x y ts kd (.bytes b tb) t1 t2 t3 t4 t5) :: news ∧ IsB r (kindB ln ks.length)) (fun _ => False) := fun news => by
  cases ln with
  | true =>
    obtain rfl : kd = .none := hk
    exact packkind_none XB TB a dx x y ts b ks tb t1 t2 t3 t4 t5 hb (hl rfl)
  | false =>
    obtain ⟨t, rfl⟩ : ∃ t, kd = .int 2048 t := hk
    exact packkind_int XB TB a dx x y ts b ks tb t1 t2 t3 t4 t5 hb 2048 t (by decide) (by decide) (by decide) (by decide)
theorem kind_conB (XB : (Lw.head.heap_1 w.params).In base) (TB : Top p loose mean mg mb base) (a dx : Addr) (x y ts kd : Value) (b : Array UInt8) (ks : List Int) (tb t1 t2 t3 t4 t5 : Tok) (hb : KBw.bInts b = ks) (hk : KindV kd true) (h1 : 1500 < ks.length) (h2 : ks.length ≤ 2000) :
    ∀ news, Con w base 40 400 282 [.ref a] ((a, instObj 264 dx) :: (dx, frameD w x y ts kd (.bytes b tb) t1 t2 t3 t4 t5) :: news) (fun r news' => False) (fun c => c = .ref 163) := fun news => by
  obtain rfl : kd = .none := hk
  exact packkind_noneB XB TB a dx x y ts b ks tb t1 t2 t3 t4 t5 hb h1 (by first | decide | omega)
theorem sub3 {α : Type} {a b c : α} {l : List α} (h1 : a ∈ l) (h2 : b ∈ l) (h3 : c ∈ l) : ∀ p ∈ [a, b, c], p ∈ l := List.forall_mem_cons.mpr ⟨h1, List.forall_mem_cons.mpr ⟨h2, List.forall_mem_cons.mpr ⟨h3, List.forall_mem_nil _⟩⟩⟩
theorem sub5 {α : Type} {a b c d e : α} {l : List α} (h1 : a ∈ l) (h2 : b ∈ l) (h3 : c ∈ l) (h4 : d ∈ l) (h5 : e ∈ l) : ∀ p ∈ [a, b, c, d, e], p ∈ l := List.forall_mem_cons.mpr ⟨h1, List.forall_mem_cons.mpr ⟨h2, sub3 h3 h4 h5⟩⟩
theorem sub7 {α : Type} {a b c d e f g : α} {l : List α} (h1 : a ∈ l) (h2 : b ∈ l) (h3 : c ∈ l) (h4 : d ∈ l) (h5 : e ∈ l) (h6 : f ∈ l) (h7 : g ∈ l) : ∀ p ∈ [a, b, c, d, e, f, g], p ∈ l := List.forall_mem_cons.mpr ⟨h1, List.forall_mem_cons.mpr ⟨h2, sub5 h3 h4 h5 h6 h7⟩⟩
theorem tup_len {prog : Program} {A : Around} {E : Value → Shared → Prop} {s : Shared} {h₀ : Heap} {L ta : Addr} {n : Nat} {vs : List Value} {tgs : List (Int × Int)} {ex : List (Addr × Obj)} {Q : Value → Shared → Prop} (N : News h₀ L s.heap news) (hm : (ta, (⟨Value.type "tuple", none, Data.seq vs.toArray n, #[]⟩ : Obj)) ∈ news) (T : TagsIn w ex tgs vs) (hn : tgs.length ≤ 2)
    (h : Q (.int (tgs.length : Int) (s.toks + 1)) { s with toks := s.toks + 1 + 1 }) : wpAny (model prog w) A (call (.builtin "len") [.ref ta]) Q E s := by
  have e : vs.toArray.size = tgs.length := by rw [List.size_toArray, T.length]
  refine len_tuple ⟨_, (N _ hm).1, rfl, n, rfl⟩ (by rw [e]; omega) ?_
  rw [e]
  exact h
local macro_rules | `(tactic| walk_at "call builtin:len") => `(tactic| (k_here; (with_reducible show wpAny _ _ (call (Value.builtin "len") [Value.ref _]) _ _ _); k_dflt (refine tup_len (by k_asm) (by k_mem) (by assumption) (by assumption) ?_); (try dsimp only)))
local macro_rules | `(tactic| walk_at "eval Call Attribute") => `(tactic| ((with_reducible show wpAny _ _ (eval (Expr.Call (Expr.Attribute (Expr.Constant _ _ _) _ _) _ _ _) _) _ _ _); (fail_if_success (rename GoIf => hGo9)); refine stop_ ?_))
theorem kind_in (XB : (Lw.head.heap_1 w.params).In base) (TB : Top p loose mean mg mb base) {l : List (Addr × Obj)} (a dx : Addr) (x y ts kd : Value) (b : Array UInt8) (ks : List Int) (tb t1 t2 t3 t4 t5 : Tok) (hb : KBw.bInts b = ks) (ln : Bool) (hk : KindV kd ln) (hl : ks.length ≤ 2000)
    (m1 : (a, instObj 264 dx) ∈ l) (m2 : (dx, frameD w x y ts kd (.bytes b tb) t1 t2 t3 t4 t5) ∈ l) : Con w base 40 400 282 [.ref a] l (fun r news' => news' = l ∧ (¬ (ln = true ∧ 1500 < ks.length) ∧ IsB r (kindB ln ks.length))) (fun c => (ln = true ∧ 1500 < ks.length) ∧ c = .ref 163) := by
  have sub2m : ∀ p ∈ [(a, instObj 264 dx), (dx, frameD w x y ts kd (.bytes b tb) t1 t2 t3 t4 t5)], p ∈ l := List.forall_mem_cons.mpr ⟨m1, List.forall_mem_cons.mpr ⟨m2, List.forall_mem_nil _⟩⟩
  by_cases hB : ln = true ∧ 1500 < ks.length
  · obtain ⟨rfl, hB⟩ := hB
    exact con_mono (con_in (pre := [_, _]) (P := fun _ => False) (con_mono (kind_conB XB TB a dx x y ts kd b ks tb t1 t2 t3 t4 t5 hb hk hB hl l) (fun _ _ q => q.elim) fun _ q => q) sub2m) (fun _ _ q => q.2.elim) fun c q => ⟨⟨rfl, hB⟩, q⟩
  · exact con_mono (con_in (pre := [_, _]) (kind_con XB TB a dx x y ts kd b ks tb t1 t2 t3 t4 t5 hb ln hk (fun e => by
      by_cases h : 1500 < ks.length
      · exact absurd ⟨e, h⟩ hB
      · omega) l) sub2m) (fun _ _ q => ⟨q.1, hB, q.2⟩) fun _ q => q.elim
theorem pack_in (XB : (Lw.head.heap_1 w.params).In base) (TB : Top p loose mean mg mb base) {l : List (Addr × Obj)} {a : Addr} {x y : Int} {ps : List (Int × Int)} {kd : Value} {b : Array UInt8} (ln : Bool) (ks : List Int) (Fi : FrameIn w l a x y ps kd b) (hk : KindV kd ln) (hb : KBw.bInts b = ks) (hT : TagsOk ps)
    (hx0 : 0 ≤ x) (hx1 : x < 281474976710656) (hy0 : 0 ≤ y) (hy1 : y < 281474976710656) (hl : ks.length ≤ 2000) (hn : ps.length ≤ 2) :
    Con w base 60 800 288 [.ref a] l (fun r news' => news' = l ∧ (¬ (ln = true ∧ 1500 < ks.length) ∧ IsB r (packB x y (tagsB ps) (kindB ln ks.length) ks))) (fun c => (ln = true ∧ 1500 < ks.length) ∧ c = .ref 163) := by
  obtain ⟨dx, ta, vs, n, tx, ty, tb, t1, t2, t3, t4, t5, m1, m2, m3, T⟩ := Fi
  have PK := kind_in XB TB a dx (.int x tx) (.int y ty) (.ref ta) kd b ks tb t1 t2 t3 t4 t5 hb ln hk hl m1 m2
  obtain ⟨kb, hkb, hkl⟩ : ∃ kb, kb = kindB ln ks.length ∧ kb.length = 2 := ⟨_, rfl, kindB_len _ _⟩
  obtain ⟨tg, htg, htl⟩ : ∃ tg, tg = tagsB ps ∧ tg.length ≤ 8 := ⟨_, rfl, by rw [tagsB_len]; omega⟩
  rw [← hkb] at PK ⊢
  rw [← htg]
  w_on
  k_dflt (refine' con_defQ (binds := [(Str.ofString "frame", .ref a), (Str.ofString "least", .int 60 993)]) XB TB ?ho ?hcd ?hb ?hl ?hn ?_ ?c1 ?c2 ?c3 ?c4)
  case ho => k_is
  case hcd => k_is
  case hb => intro _ _; first | exact BindsTo.of_eq rfl | exact binds_K (by assumption) rfl (by k_is) rfl rfl rfl
  case hl => exact locs rfl
  case hn => first | decide | omega
  case c1 => decide
  case c2 => rfl
  case c3 => rfl
  case c4 => rfl
  intro dp un gd l sh9 sg9 sd9 sk9 so9 g L' h' Q1 E1 hdp hun AN F' N' l1 B' D' X' T' TT hQ1 hE1
  (try dsimp only)
  (try k_fold)
  (all_goals (repeat ((with_reducible refine OQ.use (by assumption) ?_); (try dsimp only))))
  w_strict (k_steps)
  (all_goals (repeat ((with_reducible refine OQ.use (by assumption) ?_); (try dsimp only))))
  refine Stop.mk ?_
  refine opk (fun K9 hK9 => ?_)
  k_dflt (refine' con_step (put48good XB TB _ _ (by first | decide | omega) (by first | decide | omega)) (by assumption) (by k_asm) (by k_asm) (by assumption) rfl rfl rfl ?hd50 ?hu50 ?hesc50 ?hret50)
  case hd50 => (dsimp only; first | exact dstep1 hdp rfl | exact dstep hdp rfl | omega)
  case hu50 => (dsimp only; first | exact dstep hun rfl | exact dstep1 hun rfl | omega)
  case hesc50 => exact fun _ _ _ _ q _ => q.elim
  intro r9 h' tk' news' F' N' P9
  (try k_sweep)
  (try dsimp only)
  obtain ⟨rfl, b1, tb1, rfl, hb1⟩ := P9
  (all_goals (repeat ((with_reducible refine OQ.use (by assumption) ?_); (try dsimp only))))
  w_strict (k_steps)
  (all_goals (repeat ((with_reducible refine OQ.use (by assumption) ?_); (try dsimp only))))
  refine Stop.mk ?_
  refine opk (fun K9 hK9 => ?_)
  k_dflt (refine' con_step (put48good XB TB _ _ (by first | decide | omega) (by first | decide | omega)) (by assumption) (by k_asm) (by k_asm) (by assumption) rfl rfl rfl ?hd51 ?hu51 ?hesc51 ?hret51)
  case hd51 => (dsimp only; first | exact dstep1 hdp rfl | exact dstep hdp rfl | omega)
  case hu51 => (dsimp only; first | exact dstep hun rfl | exact dstep1 hun rfl | omega)
  case hesc51 => exact fun _ _ _ _ q _ => q.elim
  intro r9 h' tk' news' F' N' P9
  (try k_sweep)
  (try dsimp only)
  obtain ⟨rfl, b2, tb2, rfl, hb2⟩ := P9
  (all_goals (repeat ((with_reducible refine OQ.use (by assumption) ?_); (try dsimp only))))
  w_strict (k_steps)
  (all_goals (repeat ((with_reducible refine OQ.use (by assumption) ?_); (try dsimp only))))
  refine Stop.mk ?_
  (all_goals (repeat ((with_reducible refine OQ.use (by assumption) ?_); (try dsimp only))))
  k_dflt (refine cut_at (fun v => IsB v tg) (by k_asm) (by k_asm) ?cutJ1 ?cutJ2)
  case cutJ1 =>
    intro go
    cases T with
    | nil =>
      (all_goals (repeat ((with_reducible refine OQ.use (by assumption) ?_); (try dsimp only))))
      w_strict (k_steps)
      (all_goals (repeat ((with_reducible refine OQ.use (by assumption) ?_); (try dsimp only))))
      (all_goals (repeat ((with_reducible refine OQ.use (by assumption) ?_); (try dsimp only))))
      exact cut_end (by k_asm) (news_sub (by k_asm) (fun q hq => by repeat (first | exact hq | refine List.mem_cons_of_mem _ ?_))) ⟨_, _, rfl, by rw [htg]; rfl⟩
    | cons g1 d1 T =>
      have o1 := hT _ (.head _)
      cases T with
      | nil =>
        (all_goals (repeat ((with_reducible refine OQ.use (by assumption) ?_); (try dsimp only))))
        w_strict (k_steps)
        (all_goals (repeat ((with_reducible refine OQ.use (by assumption) ?_); (try dsimp only))))
        refine Stop.mk ?_
        refine opk (fun K9 hK9 => ?_)
        k_dflt (refine' con_step (packtag_good XB TB _ _ 33024 _ _ false _ _ _ _ _ _ _ (.inl rfl) o1.1 o1.2.1 o1.2.2.1 o1.2.2.2) (by assumption) (by k_asm) (news_dup2 (by k_asm) (by k_mem) (by k_mem)) (by assumption) rfl rfl rfl ?hd52 ?hu52 ?hesc52 ?hret52)
        case hd52 => (dsimp only; first | exact dstep1 hdp rfl | exact dstep hdp rfl | omega)
        case hu52 => (dsimp only; first | exact dstep hun rfl | exact dstep1 hun rfl | omega)
        case hesc52 => exact fun _ _ _ _ q _ => q.elim
        intro r9 h' tk' news' F' N' P9
        (try k_sweep)
        (try dsimp only)
        obtain ⟨rfl, c1, tc1, rfl, hc1⟩ := P9
        replace N' := sub2 N'
        (all_goals (repeat ((with_reducible refine OQ.use (by assumption) ?_); (try dsimp only))))
        w_strict (k_steps)
        (all_goals (repeat ((with_reducible refine OQ.use (by assumption) ?_); (try dsimp only))))
        (all_goals (repeat ((with_reducible refine OQ.use (by assumption) ?_); (try dsimp only))))
        exact cut_end (by k_asm) (news_sub (by k_asm) (fun q hq => by repeat (first | exact hq | refine List.mem_cons_of_mem _ ?_))) ⟨_, _, rfl, hc1.trans (by rw [htg]; rfl)⟩
      | cons g2 d2 T =>
        have o2 := hT _ (.tail _ (.head _))
        cases T with
        | nil =>
          (all_goals (repeat ((with_reducible refine OQ.use (by assumption) ?_); (try dsimp only))))
          w_strict (k_steps)
          (all_goals (repeat ((with_reducible refine OQ.use (by assumption) ?_); (try dsimp only))))
          refine Stop.mk ?_
          refine opk (fun K9 hK9 => ?_)
          k_dflt (refine' con_step (packtag_good XB TB _ _ 33024 _ _ false _ _ _ _ _ _ _ (.inl rfl) o1.1 o1.2.1 o1.2.2.1 o1.2.2.2) (by assumption) (by k_asm) (news_dup2 (by k_asm) (by k_mem) (by k_mem)) (by assumption) rfl rfl rfl ?hd53 ?hu53 ?hesc53 ?hret53)
          case hd53 => (dsimp only; first | exact dstep1 hdp rfl | exact dstep hdp rfl | omega)
          case hu53 => (dsimp only; first | exact dstep hun rfl | exact dstep1 hun rfl | omega)
          case hesc53 => exact fun _ _ _ _ q _ => q.elim
          intro r9 h' tk' news' F' N' P9
          (try k_sweep)
          (try dsimp only)
          obtain ⟨rfl, c1, tc1, rfl, hc1⟩ := P9
          replace N' := sub2 N'
          (all_goals (repeat ((with_reducible refine OQ.use (by assumption) ?_); (try dsimp only))))
          w_strict (k_steps)
          (all_goals (repeat ((with_reducible refine OQ.use (by assumption) ?_); (try dsimp only))))
          refine Stop.mk ?_
          refine opk (fun K9 hK9 => ?_)
          k_dflt (refine' con_step (packtag_good XB TB _ _ 33024 _ _ false _ _ _ _ _ _ _ (.inl rfl) o2.1 o2.2.1 o2.2.2.1 o2.2.2.2) (by assumption) (by k_asm) (news_dup2 (by k_asm) (by k_mem) (by k_mem)) (by assumption) rfl rfl rfl ?hd54 ?hu54 ?hesc54 ?hret54)
          case hd54 => (dsimp only; first | exact dstep1 hdp rfl | exact dstep hdp rfl | omega)
          case hu54 => (dsimp only; first | exact dstep hun rfl | exact dstep1 hun rfl | omega)
          case hesc54 => exact fun _ _ _ _ q _ => q.elim
          intro r9 h' tk' news' F' N' P9
          (try k_sweep)
          (try dsimp only)
          obtain ⟨rfl, c2, tc2, rfl, hc2⟩ := P9
          replace N' := sub2 N'
          (all_goals (repeat ((with_reducible refine OQ.use (by assumption) ?_); (try dsimp only))))
          w_strict (k_steps)
          (all_goals (repeat ((with_reducible refine OQ.use (by assumption) ?_); (try dsimp only))))
          (all_goals (repeat ((with_reducible refine OQ.use (by assumption) ?_); (try dsimp only))))
          exact cut_end (by k_asm) (news_sub (by k_asm) (fun q hq => by repeat (first | exact hq | refine List.mem_cons_of_mem _ ?_))) ⟨_, _, rfl, Eq.trans (by assumption) (by rw [htg]; rfl)⟩
        | cons g3 d3 T => simp only [List.length_cons] at hn; omega
  case cutJ2 =>
  intro v h' tk' F' N' hv
  obtain ⟨bj, tj, rfl, hj⟩ := hv
  (all_goals (repeat ((with_reducible refine OQ.use (by assumption) ?_); (try dsimp only))))
  w_strict (k_steps)
  (all_goals (repeat ((with_reducible refine OQ.use (by assumption) ?_); (try dsimp only))))
  refine Stop.mk ?_
  refine opk (fun K9 hK9 => ?_)
  k_dflt (refine' con_step (PK) (by assumption) (by k_asm) (by k_asm) (by assumption) rfl rfl rfl ?hd55 ?hu55 ?hesc55 ?hret55)
  case hd55 => (dsimp only; first | exact dstep1 hdp rfl | exact dstep hdp rfl | omega)
  case hu55 => (dsimp only; first | exact dstep hun rfl | exact dstep1 hun rfl | omega)
  case hesc55 =>
    refine con_pass2 (by first | exact fun _ _ x => x | (rename EQ9 _ _ => hE9; exact EQ9.pass hE9)) (by assumption) (by k_asm) (by k_asm) (by assumption) rfl ?sub55 rfl rfl ?pe55
    case sub55 => intro _ hq; repeat (first | exact hq | refine List.mem_cons_of_mem _ ?_)
    case pe55 => first | exact fun _ x => x | exact fun _ x => ⟨trivial, x⟩
  intro r9 h' tk' news' F' N' P9
  (try k_sweep)
  (try dsimp only)
  obtain ⟨rfl, hB, b3, tb3, rfl, hb3⟩ := P9
  (all_goals (repeat ((with_reducible refine OQ.use (by assumption) ?_); (try dsimp only))))
  w_strict (k_steps)
  (all_goals (repeat ((with_reducible refine OQ.use (by assumption) ?_); (try dsimp only))))
  (all_goals (repeat ((with_reducible refine OQ.use (by assumption) ?_); (try dsimp only))))
  k_dflt (refine KBa.add_K (by assumption) (by assumption) ?hz ?_)
  case hz => simp only [List.length_append, List.length_replicate, List.length_cons, List.length_nil, List.length_map]; split <;> omega
  intro t9 k9 hq
  obtain ⟨fl, hfl⟩ : ∃ fl, fl = fillB (bodyB x y tg kb ks) := ⟨_, rfl⟩
  have hfl2 : fl.length ≤ 5000 := by rw [hfl]; simp only [List.length_append, List.length_replicate, List.length_cons, List.length_nil]; omega
  replace hq := hq.trans (fill_eq (l := bodyB x y tg kb ks) rfl (by simp only [List.length_append, List.length_cons, List.length_nil]) hfl)
  (all_goals (repeat ((with_reducible refine OQ.use (by assumption) ?_); (try dsimp only))))
  w_strict (k_steps)
  (all_goals (repeat ((with_reducible refine OQ.use (by assumption) ?_); (try dsimp only))))
  refine Stop.mk ?_
  refine opk (fun K9 hK9 => ?_)
  k_dflt (refine' con_step (sum_con XB TB _ _ _ hq) (by assumption) (by k_asm) (by k_asm) (by assumption) rfl rfl rfl ?hd56 ?hu56 ?hesc56 ?hret56)
  case hd56 => (dsimp only; first | exact dstep1 hdp rfl | exact dstep hdp rfl | omega)
  case hu56 => (dsimp only; first | exact dstep hun rfl | exact dstep1 hun rfl | omega)
  case hesc56 => exact fun _ _ _ _ q _ => q.elim
  intro r9 h' tk' news' F' N' P9
  (try k_sweep)
  (try dsimp only)
  obtain ⟨rfl, b4, tb4, rfl, hb4⟩ := P9
  (all_goals (repeat ((with_reducible refine OQ.use (by assumption) ?_); (try dsimp only))))
  w_strict (k_steps)
  (all_goals (repeat ((with_reducible refine OQ.use (by assumption) ?_); (try dsimp only))))
  (all_goals (repeat ((with_reducible refine OQ.use (by assumption) ?_); (try dsimp only))))
  exact end_c (by k_asm) (by k_asm) TT ⟨rfl, hB, _, _, rfl, (by assumption : _ = fl ++ sumS fl).trans (by rw [hfl])⟩
end
section
variable {w : World} {p : Program} {loose : List Str} {mean : ExcName → Option Value} {mg mb : Str → Option Value} {base : Heap} {news : List (Addr × Obj)}
theorem put48out (XB : (Lw.head.heap_1 w.params).In base) (TB : Top p loose mean mg mb base) (n : Int) (t : Tok) (h : n < 0 ∨ 281474976710656 ≤ n) :
    Con w base 25 200 191 [.int n t] news (fun r news' => False) (fun c => c = .ref 163) := by
  rcases h with h | h
  · exact put48neg XB TB n t h
  · exact put48bad XB TB n t h
theorem packframe0x (XB : (Lw.head.heap_1 w.params).In base) (TB : Top p loose mean mg mb base) (a dx ta : Addr) (n : Nat) (x : Int) (y kd b : Value) (tx t1 t2 t3 t4 t5 : Tok) (h : x < 0 ∨ 281474976710656 ≤ x) :
    Con w base 60 800 288 [.ref a] ((a, instObj 264 dx) :: (dx, frameD w (.int x tx) y (.ref ta) kd b t1 t2 t3 t4 t5) :: (ta, ⟨Value.type "tuple", none, Data.seq #[] n, #[]⟩) :: news)
      (fun r news' => False) (fun c => c = .ref 163) := by
  w_on
  k_dflt (refine' con_defQ (binds := [(Str.ofString "frame", .ref a), (Str.ofString "least", .int 60 993)]) XB TB ?ho ?hcd ?hb ?hl ?hn ?_ ?c1 ?c2 ?c3 ?c4)
  case ho => k_is
  case hcd => k_is
  case hb => intro _ _; first | exact BindsTo.of_eq rfl | exact binds_K (by assumption) rfl (by k_is) rfl rfl rfl
  case hl => exact locs rfl
  case hn => first | decide | omega
  case c1 => decide
  case c2 => rfl
  case c3 => rfl
  case c4 => rfl
  intro dp un gd l sh9 sg9 sd9 sk9 so9 g L' h' Q1 E1 hdp hun AN F' N' l1 B' D' X' T' TT hQ1 hE1
  (try dsimp only)
  (try k_fold)
  (all_goals (repeat ((with_reducible refine OQ.use (by assumption) ?_); (try dsimp only))))
  w_strict (k_steps)
  (all_goals (repeat ((with_reducible refine OQ.use (by assumption) ?_); (try dsimp only))))
  refine Stop.mk ?_
  refine opk (fun K9 hK9 => ?_)
  k_dflt (refine' con_step (put48out XB TB _ _ h) (by assumption) (by k_asm) (by k_asm) (by assumption) rfl rfl rfl ?hd58 ?hu58 ?hesc58 ?hret58)
  case hd58 => (dsimp only; first | exact dstep1 hdp rfl | exact dstep hdp rfl | omega)
  case hu58 => (dsimp only; first | exact dstep hun rfl | exact dstep1 hun rfl | omega)
  case hesc58 =>
    refine con_pass2 (by first | exact fun _ _ x => x | (rename EQ9 _ _ => hE9; exact EQ9.pass hE9)) (by assumption) (by k_asm) (by k_asm) (by assumption) rfl ?sub58 rfl rfl ?pe58
    case sub58 => intro _ hq; repeat (first | exact hq | refine List.mem_cons_of_mem _ ?_)
    case pe58 => first | exact fun _ x => x | exact fun _ x => ⟨trivial, x⟩
  intro r9 h' tk' news' F' N' P9
  (try k_sweep)
  (try dsimp only)
  exact P9.elim
theorem packframe0y (XB : (Lw.head.heap_1 w.params).In base) (TB : Top p loose mean mg mb base) (a dx ta : Addr) (n : Nat) (x y : Int) (kd b : Value) (tx ty t1 t2 t3 t4 t5 : Tok) (hx0 : 0 ≤ x) (hx1 : x < 281474976710656) (h : y < 0 ∨ 281474976710656 ≤ y) :
    Con w base 60 800 288 [.ref a] ((a, instObj 264 dx) :: (dx, frameD w (.int x tx) (.int y ty) (.ref ta) kd b t1 t2 t3 t4 t5) :: (ta, ⟨Value.type "tuple", none, Data.seq #[] n, #[]⟩) :: news)
      (fun r news' => False) (fun c => c = .ref 163) := by
  w_on
  k_dflt (refine' con_defQ (binds := [(Str.ofString "frame", .ref a), (Str.ofString "least", .int 60 993)]) XB TB ?ho ?hcd ?hb ?hl ?hn ?_ ?c1 ?c2 ?c3 ?c4)
  case ho => k_is
  case hcd => k_is
  case hb => intro _ _; first | exact BindsTo.of_eq rfl | exact binds_K (by assumption) rfl (by k_is) rfl rfl rfl
  case hl => exact locs rfl
  case hn => first | decide | omega
  case c1 => decide
  case c2 => rfl
  case c3 => rfl
  case c4 => rfl
  intro dp un gd l sh9 sg9 sd9 sk9 so9 g L' h' Q1 E1 hdp hun AN F' N' l1 B' D' X' T' TT hQ1 hE1
  (try dsimp only)
  (try k_fold)
  (all_goals (repeat ((with_reducible refine OQ.use (by assumption) ?_); (try dsimp only))))
  w_strict (k_steps)
  (all_goals (repeat ((with_reducible refine OQ.use (by assumption) ?_); (try dsimp only))))
  refine Stop.mk ?_
  refine opk (fun K9 hK9 => ?_)
  k_dflt (refine' con_step (put48good XB TB _ _ (by first | decide | omega) (by first | decide | omega)) (by assumption) (by k_asm) (by k_asm) (by assumption) rfl rfl rfl ?hd60 ?hu60 ?hesc60 ?hret60)
  case hd60 => (dsimp only; first | exact dstep1 hdp rfl | exact dstep hdp rfl | omega)
  case hu60 => (dsimp only; first | exact dstep hun rfl | exact dstep1 hun rfl | omega)
  case hesc60 => exact fun _ _ _ _ q _ => q.elim
  intro r9 h' tk' news' F' N' P9
  (try k_sweep)
  (try dsimp only)
  obtain ⟨rfl, b1, tb1, rfl, hb1⟩ := P9
  (all_goals (repeat ((with_reducible refine OQ.use (by assumption) ?_); (try dsimp only))))
  w_strict (k_steps)
  (all_goals (repeat ((with_reducible refine OQ.use (by assumption) ?_); (try dsimp only))))
  refine Stop.mk ?_
  refine opk (fun K9 hK9 => ?_)
  k_dflt (refine' con_step (put48out XB TB _ _ h) (by assumption) (by k_asm) (by k_asm) (by assumption) rfl rfl rfl ?hd61 ?hu61 ?hesc61 ?hret61)
  case hd61 => (dsimp only; first | exact dstep1 hdp rfl | exact dstep hdp rfl | omega)
  case hu61 => (dsimp only; first | exact dstep hun rfl | exact dstep1 hun rfl | omega)
  case hesc61 =>
    refine con_pass2 (by first | exact fun _ _ x => x | (rename EQ9 _ _ => hE9; exact EQ9.pass hE9)) (by assumption) (by k_asm) (by k_asm) (by assumption) rfl ?sub61 rfl rfl ?pe61
    case sub61 => intro _ hq; repeat (first | exact hq | refine List.mem_cons_of_mem _ ?_)
    case pe61 => first | exact fun _ x => x | exact fun _ x => ⟨trivial, x⟩
  intro r9 h' tk' news' F' N' P9
  (try k_sweep)
  (try dsimp only)
  exact P9.elim
theorem get16i (XB : (Lw.head.heap_1 w.params).In base) (TB : Top p loose mean mg mb base) (b : Array UInt8) (ks : List Int) (i : Int) (j : Nat) (x0 x1 v : Int) (tb t : Tok) (hk : KBw.bInts b = ks) (hi : i = (j : Nat)) (hj : (ks.drop j).take 2 = [x0, x1]) (hl : ks.length ≤ 100000) (hv : x0 * 256 + x1 = v) :
    Con w base 25 200 198 [.bytes b tb, .int i t] news (fun r news' => news' = news ∧ ∃ tk, r = .int v tk) (fun _ => False) := by
  subst hi hv
  exact get16 XB TB b ks j x0 x1 tb t hk hj hl
theorem get48i (XB : (Lw.head.heap_1 w.params).In base) (TB : Top p loose mean mg mb base) (b : Array UInt8) (ks : List Int) (i : Int) (j : Nat) (v : Int) (tb t : Tok) (hk : KBw.bInts b = ks) (hi : i = (j : Nat)) (hj : (ks.drop j).take 6 = be6 v) (hl : ks.length ≤ 100000) (h0 : 0 ≤ v) (h1 : v < 281474976710656) :
    Con w base 25 200 205 [.bytes b tb, .int i t] news (fun r news' => news' = news ∧ ∃ tk, r = .int v tk) (fun _ => False) := by
  subst hi
  have := get48 (news := news) XB TB b ks j _ _ _ _ _ _ tb t hk hj hl
  have e : v / 1099511627776 % 256 * 1099511627776 + v / 4294967296 % 256 * 4294967296 + v / 16777216 % 256 * 16777216 + v / 65536 % 256 * 65536 + v / 256 % 256 * 256 + v % 256 = v := by omega
  rw [e] at this
  exact this
theorem mask_walk {prog : Program} {A : Around} {E : Value → Shared → Prop} {s : Shared} {x : Int} {t u : Tok} {Q : Value → Shared → Prop} (n : Nat) (e : Int) (he : (2 : Int) ^ n = e) (h0 : 0 ≤ x) (h : Q (.int (x % e) s.toks) { s with toks := s.toks + 1 }) : wpAny (model prog w) A (binaryOp .BitAnd (.int x t) (.int (e - 1) u)) Q E s := by
  refine and_int ?_
  have q : Builtin.bitAnd x (e - 1) = x % e := by
    have p0 : (1 : Int) ≤ e := by rw [← he]; exact Int.pow_pos (by decide)
    rw [bitAnd_pp h0 (by first | decide | omega)]
    obtain ⟨m, rfl⟩ := Int.eq_ofNat_of_zero_le h0
    have e2 : e = ((2 ^ n : Nat) : Int) := by rw [← he]; push_cast; rfl
    have e3 : (e - 1).toNat = 2 ^ n - 1 := by omega
    rw [e3, Int.toNat_natCast, Nat.and_two_pow_sub_one_eq_mod, e2]
    push_cast
    rfl
  rw [q]
  exact h
theorem rsh_walk {prog : Program} {A : Around} {E : Value → Shared → Prop} {s : Shared} {x : Int} {t u : Tok} {Q : Value → Shared → Prop} (n : Nat) (e : Int) (he : (2 : Int) ^ n = e) (h : Q (.int (x / e) s.toks) { s with toks := s.toks + 1 }) : wpAny (model prog w) A (binaryOp .RShift (.int x t) (.int (n : Nat) u)) Q E s := by
  refine rshift_int (by first | decide | omega) ?_
  have e0 : 0 ≤ e := by rw [← he]; exact Int.le_of_lt (Int.pow_pos (by decide))
  rw [Int.toNat_natCast, he, Int.fdiv_eq_ediv_of_nonneg _ e0]
  exact h
theorem mask_walkV {prog : Program} {A : Around} {E : Value → Shared → Prop} {sh : Heap} {sg : Array GenState} {sd : Drawn} {sk : Nat} {so : OsState} {x c : Int} {t u : Tok} {Q : Value → Shared → Prop} (n : Nat) (e : Int) (he : (2 : Int) ^ n = e) (h0 : 0 ≤ x) (hc : x % e = c) (h : Q (.int c sk) ⟨sh, sg, sd, sk + 1, so⟩) : wpAny (model prog w) A (binaryOp .BitAnd (.int x t) (.int (e - 1) u)) Q E ⟨sh, sg, sd, sk, so⟩ :=
  mask_walk n e he h0 (by rw [hc]; exact h)
theorem rsh_walkV {prog : Program} {A : Around} {E : Value → Shared → Prop} {sh : Heap} {sg : Array GenState} {sd : Drawn} {sk : Nat} {so : OsState} {x c : Int} {t u : Tok} {Q : Value → Shared → Prop} (n : Nat) (e : Int) (he : (2 : Int) ^ n = e) (hc : x / e = c) (h : Q (.int c sk) ⟨sh, sg, sd, sk + 1, so⟩) : wpAny (model prog w) A (binaryOp .RShift (.int x t) (.int (n : Nat) u)) Q E ⟨sh, sg, sd, sk, so⟩ :=
  rsh_walk n e he (by rw [hc]; exact h)
local macro_rules | `(tactic| walk_at "binaryOp BitAnd int int") => `(tactic| (k_here; k_dflt (first
  | ((with_reducible show wpAny _ _ (binaryOp Operator.BitAnd (Value.int _ _) (Value.int 4095 _)) _ _ _); (refine mask_walkV 12 4096 (by decide) (by omega) (by assumption) ?_))
  | ((with_reducible show wpAny _ _ (binaryOp Operator.BitAnd (Value.int _ _) (Value.int 1 _)) _ _ _); (refine mask_walkV 1 2 (by decide) (by omega) (by assumption) ?_)))))
local macro_rules | `(tactic| walk_at "binaryOp RShift int int") => `(tactic| (k_here; k_dflt (first
  | ((with_reducible show wpAny _ _ (binaryOp Operator.RShift (Value.int _ _) (Value.int 12 _)) _ _ _); (refine rsh_walkV 12 4096 (by decide) (by assumption) ?_))
  | ((with_reducible show wpAny _ _ (binaryOp Operator.RShift (Value.int _ _) (Value.int 13 _)) _ _ _); (refine rsh_walkV 13 8192 (by decide) (by assumption) ?_)))))
inductive Punpacktag (w : World) (news : List (Addr × Obj)) (pr : Int) (v : Int) (r : Value) (news' : List (Addr × Obj)) : Prop
  | mk (x dx t1 t2 t3 t4 u1 u2 u3) (f1 : r = .ref x) (f2 : news' = (x, instObj 230 dx) :: (dx, tagD w (.int 33024 u1) (.int pr u2) (.bool false) (.int v u3) t1 t2 t3 t4) :: news) (f3 : (∀ p ∈ news, p.1 < dx)) (f4 : dx < x)
theorem unpacktag (XB : (Lw.head.heap_1 w.params).In base) (TB : Top p loose mean mg mb base) (b : Array UInt8) (ks : List Int) (i : Int) (j : Nat) (w0 w1 pr v : Int) (tb t : Tok) (hk : KBw.bInts b = ks) (hi : i = (j : Nat)) (hj : (ks.drop j).take 2 = [129, 0]) (hj2 : (ks.drop (j + 2)).take 2 = [w0, w1]) (hl : ks.length ≤ 100000)
    (hw : w0 * 256 + w1 = pr * 8192 + v) (hp0 : 0 ≤ pr) (hp1 : pr ≤ 7) (hv0 : 0 ≤ v) (hv1 : v < 4095) :
    Con w base 50 500 295 [.bytes b tb, .int i t] news (Punpacktag w news pr v) (fun _ => False) := by
  have m1 : (pr * 8192 + v) % 4096 = v := by omega
  have m2 : (pr * 8192 + v) / 8192 = pr := by omega
  have m3 : (pr * 8192 + v) / 4096 = pr * 2 := by omega
  have m4 : (pr * 2) % 2 = 0 := by omega
  have q0 : ¬ v = 4095 := by omega
  have q1 : (v == 4095) = false := by simp [q0]
  have q2 : ¬ (v == 4095) = true := by simp [q0]
  have q3 : decide (v = 4095) = false := by simp [q0]
  have q4 : ¬ decide (v = 4095) = true := by simp [q0]
  w_on
  k_dflt (refine' con_defQ (binds := [(Str.ofString "octets", .bytes b tb), (Str.ofString "at", .int i t)]) XB TB ?ho ?hcd ?hb ?hl ?hn ?_ ?c1 ?c2 ?c3 ?c4)
  case ho => k_is
  case hcd => k_is
  case hb => intro _ _; first | exact BindsTo.of_eq rfl | exact binds_K (by assumption) rfl (by k_is) rfl rfl rfl
  case hl => exact locs rfl
  case hn => first | decide | omega
  case c1 => decide
  case c2 => rfl
  case c3 => rfl
  case c4 => rfl
  intro dp un gd l sh9 sg9 sd9 sk9 so9 g L' h' Q1 E1 hdp hun AN F' N' l1 B' D' X' T' TT hQ1 hE1
  (try dsimp only)
  (try k_fold)
  (all_goals (repeat ((with_reducible refine OQ.use (by assumption) ?_); (try dsimp only))))
  w_strict (k_steps)
  (all_goals (repeat ((with_reducible refine OQ.use (by assumption) ?_); (try dsimp only))))
  refine Stop.mk ?_
  refine opk (fun K9 hK9 => ?_)
  k_dflt (refine' con_step (get16i XB TB b ks _ (j + 2) w0 w1 _ _ _ hk (by first | decide | omega) hj2 hl hw) (by assumption) (by k_asm) (by k_asm) (by assumption) rfl rfl rfl ?hd63 ?hu63 ?hesc63 ?hret63)
  case hd63 => (dsimp only; first | exact dstep1 hdp rfl | exact dstep hdp rfl | omega)
  case hu63 => (dsimp only; first | exact dstep hun rfl | exact dstep1 hun rfl | omega)
  case hesc63 => exact fun _ _ _ _ q _ => q.elim
  intro r9 h' tk' news' F' N' P9
  (try k_sweep)
  (try dsimp only)
  obtain ⟨rfl, tk9, rfl⟩ := P9
  (all_goals (repeat ((with_reducible refine OQ.use (by assumption) ?_); (try dsimp only))))
  w_strict (k_steps)
  (all_goals (repeat ((with_reducible refine OQ.use (by assumption) ?_); (try dsimp only))))
  refine Stop.mk ?_
  refine opk (fun K9 hK9 => ?_)
  k_dflt (refine' con_step (get16i XB TB b ks _ j 129 0 33024 _ _ hk hi hj hl (by decide)) (by assumption) (by k_asm) (by k_asm) (by assumption) rfl rfl rfl ?hd64 ?hu64 ?hesc64 ?hret64)
  case hd64 => (dsimp only; first | exact dstep1 hdp rfl | exact dstep hdp rfl | omega)
  case hu64 => (dsimp only; first | exact dstep hun rfl | exact dstep1 hun rfl | omega)
  case hesc64 => exact fun _ _ _ _ q _ => q.elim
  intro r9 h' tk' news' F' N' P9
  (try k_sweep)
  (try dsimp only)
  obtain ⟨rfl, tk8, rfl⟩ := P9
  (all_goals (repeat ((with_reducible refine OQ.use (by assumption) ?_); (try dsimp only))))
  w_strict (k_steps)
  (all_goals (repeat ((with_reducible refine OQ.use (by assumption) ?_); (try dsimp only))))
  refine Stop.mk ?_
  refine opk (fun K9 hK9 => ?_)
  k_dflt (refine' con_step (tag_con XB TB _ _ _ _) (by assumption) (by k_asm) (by k_asm) (by assumption) rfl rfl rfl ?hd65 ?hu65 ?hesc65 ?hret65)
  case hd65 => (dsimp only; first | exact dstep1 hdp rfl | exact dstep hdp rfl | omega)
  case hu65 => (dsimp only; first | exact dstep hun rfl | exact dstep1 hun rfl | omega)
  case hesc65 => exact fun _ _ _ _ q _ => q.elim
  intro r9 h' tk' news' F' N' P9
  (try k_sweep)
  (try dsimp only)
  k_steps
  (all_goals (repeat ((with_reducible refine OQ.use (by assumption) ?_); (try dsimp only))))
  exact end_c F' N' TT (by obtain ⟨x, dx, a1, a2, a3, a4, e1, e2, e3, e4⟩ := P9; exact ⟨x, dx, _, _, _, _, _, _, _, e1, e2, e3, e4⟩)
end
local macro_rules | `(tactic| walk_at "binaryOp BitAnd int int") => `(tactic| (k_here; k_dflt (first
  | ((with_reducible show wpAny _ _ (binaryOp Operator.BitAnd (Value.int _ _) (Value.int 4095 _)) _ _ _); (refine mask_walkV 12 4096 (by decide) (by omega) (by assumption) ?_))
  | ((with_reducible show wpAny _ _ (binaryOp Operator.BitAnd (Value.int _ _) (Value.int 1 _)) _ _ _); (refine mask_walkV 1 2 (by decide) (by omega) (by assumption) ?_)))))
local macro_rules | `(tactic| walk_at "binaryOp RShift int int") => `(tactic| (k_here; k_dflt (first
  | ((with_reducible show wpAny _ _ (binaryOp Operator.RShift (Value.int _ _) (Value.int 12 _)) _ _ _); (refine rsh_walkV 12 4096 (by decide) (by assumption) ?_))
  | ((with_reducible show wpAny _ _ (binaryOp Operator.RShift (Value.int _ _) (Value.int 13 _)) _ _ _); (refine rsh_walkV 13 8192 (by decide) (by assumption) ?_)))))
section
variable {w : World} {p : Program} {loose : List Str} {mean : ExcName → Option Value} {mg mb : Str → Option Value} {base : Heap} {news : List (Addr × Obj)}
local macro_rules | `(tactic| walk_at "exec While Compare cons nil") => `(tactic| (k_here; k_dflt (refine whl_start 100 ?_)))
inductive Punpacktags0 (news : List (Addr × Obj)) (r : Value) (news' : List (Addr × Obj)) : Prop
  | mk (r9 ft u0) (f1 : r = .ref r9) (f2 : news' = (r9, ⟨Value.type "tuple", none, Data.seq #[.ref ft, .int 12 u0] 0, #[]⟩) :: (ft, ⟨Value.type "tuple", none, Data.seq #[] 0, #[]⟩) :: news)
theorem unpacktags0 (XB : (Lw.head.heap_1 w.params).In base) (TB : Top p loose mean mg mb base) (b : Array UInt8) (ks : List Int) (c0 c1 : Int)  (tb t : Tok) (hk : KBw.bInts b = ks) (hl : ks.length ≤ 100000)  (hc : (ks.drop 12).take 2 = [c0, c1]) (hc1 : c0 * 256 + c1 ≠ 33024) (hc2 : c0 * 256 + c1 ≠ 34984) :
    Con w base 70 900 302 [.bytes b tb, .int 12 t] news (Punpacktags0 news) (fun _ => False) := by
  w_on
  k_dflt (refine' con_defQ (binds := [(Str.ofString "octets", .bytes b tb), (Str.ofString "at", .int 12 t)]) XB TB ?ho ?hcd ?hb ?hl ?hn ?_ ?c1 ?c2 ?c3 ?c4)
  case ho => k_is
  case hcd => k_is
  case hb => intro _ _; first | exact BindsTo.of_eq rfl | exact binds_K (by assumption) rfl (by k_is) rfl rfl rfl
  case hl => exact locs rfl
  case hn => first | decide | omega
  case c1 => decide
  case c2 => rfl
  case c3 => rfl
  case c4 => rfl
  intro dp un gd l sh9 sg9 sd9 sk9 so9 g L' h' Q1 E1 hdp hun AN F' N' l1 B' D' X' T' TT hQ1 hE1
  (try dsimp only)
  (try k_fold)
  (all_goals (repeat ((with_reducible refine OQ.use (by assumption) ?_); (try dsimp only))))
  w_strict (k_steps)
  (all_goals (repeat ((with_reducible refine OQ.use (by assumption) ?_); (try dsimp only))))
  refine Stop.mk ?_
  refine opk (fun K9 hK9 => ?_)
  k_dflt (refine' con_step (get16i XB TB b ks _ 12 c0 c1 _ _ _ hk (by decide) hc hl rfl) (by assumption) (by k_asm) (by k_asm) (by assumption) rfl rfl rfl ?hd67 ?hu67 ?hesc67 ?hret67)
  case hd67 => (dsimp only; first | exact dstep1 hdp rfl | exact dstep hdp rfl | omega)
  case hu67 => (dsimp only; first | exact dstep hun rfl | exact dstep1 hun rfl | omega)
  case hesc67 => exact fun _ _ _ _ q _ => q.elim
  intro r9 h' tk' news' F' N' P9
  (try k_sweep)
  (try dsimp only)
  obtain ⟨rfl, tk9, rfl⟩ := P9
  (all_goals (repeat ((with_reducible refine OQ.use (by assumption) ?_); (try dsimp only))))
  w_strict (k_steps)
  (all_goals (repeat ((with_reducible refine OQ.use (by assumption) ?_); (try dsimp only))))
  (try dsimp only)
  k_steps
  (all_goals (repeat ((with_reducible refine OQ.use (by assumption) ?_); (try dsimp only))))
  k_dflt (refine' end_c (news' := (_, ⟨Value.type "tuple", none, Data.seq #[.ref _, .int 12 _] 0, #[]⟩) :: (_, ⟨Value.type "tuple", none, Data.seq #[] 0, #[]⟩) :: news) (by k_asm) (news_sub (by k_asm) ?sb) TT ⟨_, _, _,  rfl, rfl⟩)
  case sb => (repeat (refine List.forall_mem_cons.mpr ⟨by k_mem, ?_⟩)); intro q hq; repeat (first | exact hq | refine List.mem_cons_of_mem _ ?_)
inductive Punpacktags1 (w : World) (news : List (Addr × Obj)) (p1 : Int) (v1 : Int) (r : Value) (news' : List (Addr × Obj)) : Prop
  | mk (r9 ft u0 x1 dx1 ua1 ub1 uc1 ud1 ue1 uf1 ug1) (f1 : r = .ref r9) (f2 : news' = (r9, ⟨Value.type "tuple", none, Data.seq #[.ref ft, .int 16 u0] 0, #[]⟩) :: (ft, ⟨Value.type "tuple", none, Data.seq #[.ref x1] 0, #[]⟩) :: (x1, instObj 230 dx1) :: (dx1, tagD w (.int 33024 ue1) (.int p1 uf1) (.bool false) (.int v1 ug1) ua1 ub1 uc1 ud1) :: news)
theorem unpacktags1 (XB : (Lw.head.heap_1 w.params).In base) (TB : Top p loose mean mg mb base) (b : Array UInt8) (ks : List Int) (c0 c1 : Int) (p1 v1 wa1 wb1 : Int) (tb t : Tok) (hk : KBw.bInts b = ks) (hl : ks.length ≤ 100000) (hp10 : 0 ≤ p1) (hp11 : p1 ≤ 7) (hv10 : 0 ≤ v1) (hv11 : v1 < 4095) (hk1 : (ks.drop 12).take 2 = [129, 0]) (hw1 : (ks.drop 14).take 2 = [wa1, wb1]) (hz1 : wa1 * 256 + wb1 = p1 * 8192 + v1) (hc : (ks.drop 16).take 2 = [c0, c1]) (hc1 : c0 * 256 + c1 ≠ 33024) (hc2 : c0 * 256 + c1 ≠ 34984) :
    Con w base 70 900 302 [.bytes b tb, .int 12 t] news (Punpacktags1 w news p1 v1) (fun _ => False) := by
  w_on
  k_dflt (refine' con_defQ (binds := [(Str.ofString "octets", .bytes b tb), (Str.ofString "at", .int 12 t)]) XB TB ?ho ?hcd ?hb ?hl ?hn ?_ ?c1 ?c2 ?c3 ?c4)
  case ho => k_is
  case hcd => k_is
  case hb => intro _ _; first | exact BindsTo.of_eq rfl | exact binds_K (by assumption) rfl (by k_is) rfl rfl rfl
  case hl => exact locs rfl
  case hn => first | decide | omega
  case c1 => decide
  case c2 => rfl
  case c3 => rfl
  case c4 => rfl
  intro dp un gd l sh9 sg9 sd9 sk9 so9 g L' h' Q1 E1 hdp hun AN F' N' l1 B' D' X' T' TT hQ1 hE1
  (try dsimp only)
  (try k_fold)
  (all_goals (repeat ((with_reducible refine OQ.use (by assumption) ?_); (try dsimp only))))
  w_strict (k_steps)
  (all_goals (repeat ((with_reducible refine OQ.use (by assumption) ?_); (try dsimp only))))
  refine Stop.mk ?_
  refine opk (fun K9 hK9 => ?_)
  k_dflt (refine' con_step (get16i XB TB b ks _ 12 129 0 33024 _ _ hk (by decide) hk1 hl (by decide)) (by assumption) (by k_asm) (by k_asm) (by assumption) rfl rfl rfl ?hd69 ?hu69 ?hesc69 ?hret69)
  case hd69 => (dsimp only; first | exact dstep1 hdp rfl | exact dstep hdp rfl | omega)
  case hu69 => (dsimp only; first | exact dstep hun rfl | exact dstep1 hun rfl | omega)
  case hesc69 => exact fun _ _ _ _ q _ => q.elim
  intro r9 h' tk' news' F' N' P9
  (try k_sweep)
  (try dsimp only)
  obtain ⟨rfl, tk1, rfl⟩ := P9
  (all_goals (repeat ((with_reducible refine OQ.use (by assumption) ?_); (try dsimp only))))
  w_strict (k_steps)
  (all_goals (repeat ((with_reducible refine OQ.use (by assumption) ?_); (try dsimp only))))
  refine Stop.mk ?_
  refine opk (fun K9 hK9 => ?_)
  k_dflt (refine' con_step (unpacktag XB TB b ks _ 12 wa1 wb1 p1 v1 _ _ hk (by decide) hk1 hw1 hl hz1 hp10 hp11 hv10 hv11) (by assumption) (by k_asm) (by k_asm) (by assumption) rfl rfl rfl ?hd70 ?hu70 ?hesc70 ?hret70)
  case hd70 => (dsimp only; first | exact dstep1 hdp rfl | exact dstep hdp rfl | omega)
  case hu70 => (dsimp only; first | exact dstep hun rfl | exact dstep1 hun rfl | omega)
  case hesc70 => exact fun _ _ _ _ q _ => q.elim
  intro r9 h' tk' news' F' N' P9
  (try k_sweep)
  (try dsimp only)
  obtain ⟨x1, dx1, ua1, ub1, uc1, ud1, ue1, uf1, ug1, rfl, rfl, f1, e1⟩ := P9
  k_lt f1
  k_lt2 e1
  (all_goals (repeat ((with_reducible refine OQ.use (by assumption) ?_); (try dsimp only))))
  w_strict (k_steps)
  (all_goals (repeat ((with_reducible refine OQ.use (by assumption) ?_); (try dsimp only))))
  refine Stop.mk ?_
  refine opk (fun K9 hK9 => ?_)
  k_dflt (refine' con_step (get16i XB TB b ks _ 16 c0 c1 _ _ _ hk (by decide) hc hl rfl) (by assumption) (by k_asm) (by k_asm) (by assumption) rfl rfl rfl ?hd71 ?hu71 ?hesc71 ?hret71)
  case hd71 => (dsimp only; first | exact dstep1 hdp rfl | exact dstep hdp rfl | omega)
  case hu71 => (dsimp only; first | exact dstep hun rfl | exact dstep1 hun rfl | omega)
  case hesc71 => exact fun _ _ _ _ q _ => q.elim
  intro r9 h' tk' news' F' N' P9
  (try k_sweep)
  (try dsimp only)
  obtain ⟨rfl, tk9, rfl⟩ := P9
  (all_goals (repeat ((with_reducible refine OQ.use (by assumption) ?_); (try dsimp only))))
  w_strict (k_steps)
  (all_goals (repeat ((with_reducible refine OQ.use (by assumption) ?_); (try dsimp only))))
  (try dsimp only)
  k_steps
  (all_goals (repeat ((with_reducible refine OQ.use (by assumption) ?_); (try dsimp only))))
  k_dflt (refine' end_c (news' := (_, ⟨Value.type "tuple", none, Data.seq #[.ref _, .int 16 _] 0, #[]⟩) :: (_, ⟨Value.type "tuple", none, Data.seq #[.ref x1] 0, #[]⟩) :: (x1, instObj 230 dx1) :: (dx1, tagD w (.int 33024 ue1) (.int p1 uf1) (.bool false) (.int v1 ug1) ua1 ub1 uc1 ud1) :: news) (by k_asm) (news_sub (by k_asm) ?sb) TT ⟨_, _, _, x1, dx1, _, _, _, _, _, _, _,  rfl, rfl⟩)
  case sb => (repeat (refine List.forall_mem_cons.mpr ⟨by k_mem, ?_⟩)); intro q hq; repeat (first | exact hq | refine List.mem_cons_of_mem _ ?_)
inductive Punpacktags2 (w : World) (news : List (Addr × Obj)) (p1 : Int) (v1 : Int) (p2 : Int) (v2 : Int) (r : Value) (news' : List (Addr × Obj)) : Prop
  | mk (r9 ft u0 x1 dx1 ua1 ub1 uc1 ud1 ue1 uf1 ug1 x2 dx2 ua2 ub2 uc2 ud2 ue2 uf2 ug2) (f1 : r = .ref r9) (f2 : news' = (r9, ⟨Value.type "tuple", none, Data.seq #[.ref ft, .int 20 u0] 0, #[]⟩) :: (ft, ⟨Value.type "tuple", none, Data.seq #[.ref x1, .ref x2] 0, #[]⟩) :: (x1, instObj 230 dx1) :: (dx1, tagD w (.int 33024 ue1) (.int p1 uf1) (.bool false) (.int v1 ug1) ua1 ub1 uc1 ud1) :: (x2, instObj 230 dx2) :: (dx2, tagD w (.int 33024 ue2) (.int p2 uf2) (.bool false) (.int v2 ug2) ua2 ub2 uc2 ud2) :: news)
theorem unpacktags2 (XB : (Lw.head.heap_1 w.params).In base) (TB : Top p loose mean mg mb base) (b : Array UInt8) (ks : List Int) (c0 c1 : Int) (p1 v1 wa1 wb1 : Int) (p2 v2 wa2 wb2 : Int) (tb t : Tok) (hk : KBw.bInts b = ks) (hl : ks.length ≤ 100000) (hp10 : 0 ≤ p1) (hp11 : p1 ≤ 7) (hv10 : 0 ≤ v1) (hv11 : v1 < 4095) (hk1 : (ks.drop 12).take 2 = [129, 0]) (hw1 : (ks.drop 14).take 2 = [wa1, wb1]) (hz1 : wa1 * 256 + wb1 = p1 * 8192 + v1) (hp20 : 0 ≤ p2) (hp21 : p2 ≤ 7) (hv20 : 0 ≤ v2) (hv21 : v2 < 4095) (hk2 : (ks.drop 16).take 2 = [129, 0]) (hw2 : (ks.drop 18).take 2 = [wa2, wb2]) (hz2 : wa2 * 256 + wb2 = p2 * 8192 + v2) (hc : (ks.drop 20).take 2 = [c0, c1]) (hc1 : c0 * 256 + c1 ≠ 33024) (hc2 : c0 * 256 + c1 ≠ 34984) :
    Con w base 70 900 302 [.bytes b tb, .int 12 t] news (Punpacktags2 w news p1 v1 p2 v2) (fun _ => False) := by
  w_on
  k_dflt (refine' con_defQ (binds := [(Str.ofString "octets", .bytes b tb), (Str.ofString "at", .int 12 t)]) XB TB ?ho ?hcd ?hb ?hl ?hn ?_ ?c1 ?c2 ?c3 ?c4)
  case ho => k_is
  case hcd => k_is
  case hb => intro _ _; first | exact BindsTo.of_eq rfl | exact binds_K (by assumption) rfl (by k_is) rfl rfl rfl
  case hl => exact locs rfl
  case hn => first | decide | omega
  case c1 => decide
  case c2 => rfl
  case c3 => rfl
  case c4 => rfl
  intro dp un gd l sh9 sg9 sd9 sk9 so9 g L' h' Q1 E1 hdp hun AN F' N' l1 B' D' X' T' TT hQ1 hE1
  (try dsimp only)
  (try k_fold)
  (all_goals (repeat ((with_reducible refine OQ.use (by assumption) ?_); (try dsimp only))))
  w_strict (k_steps)
  (all_goals (repeat ((with_reducible refine OQ.use (by assumption) ?_); (try dsimp only))))
  refine Stop.mk ?_
  refine opk (fun K9 hK9 => ?_)
  k_dflt (refine' con_step (get16i XB TB b ks _ 12 129 0 33024 _ _ hk (by decide) hk1 hl (by decide)) (by assumption) (by k_asm) (by k_asm) (by assumption) rfl rfl rfl ?hd73 ?hu73 ?hesc73 ?hret73)
  case hd73 => (dsimp only; first | exact dstep1 hdp rfl | exact dstep hdp rfl | omega)
  case hu73 => (dsimp only; first | exact dstep hun rfl | exact dstep1 hun rfl | omega)
  case hesc73 => exact fun _ _ _ _ q _ => q.elim
  intro r9 h' tk' news' F' N' P9
  (try k_sweep)
  (try dsimp only)
  obtain ⟨rfl, tk1, rfl⟩ := P9
  (all_goals (repeat ((with_reducible refine OQ.use (by assumption) ?_); (try dsimp only))))
  w_strict (k_steps)
  (all_goals (repeat ((with_reducible refine OQ.use (by assumption) ?_); (try dsimp only))))
  refine Stop.mk ?_
  refine opk (fun K9 hK9 => ?_)
  k_dflt (refine' con_step (unpacktag XB TB b ks _ 12 wa1 wb1 p1 v1 _ _ hk (by decide) hk1 hw1 hl hz1 hp10 hp11 hv10 hv11) (by assumption) (by k_asm) (by k_asm) (by assumption) rfl rfl rfl ?hd74 ?hu74 ?hesc74 ?hret74)
  case hd74 => (dsimp only; first | exact dstep1 hdp rfl | exact dstep hdp rfl | omega)
  case hu74 => (dsimp only; first | exact dstep hun rfl | exact dstep1 hun rfl | omega)
  case hesc74 => exact fun _ _ _ _ q _ => q.elim
  intro r9 h' tk' news' F' N' P9
  (try k_sweep)
  (try dsimp only)
  obtain ⟨x1, dx1, ua1, ub1, uc1, ud1, ue1, uf1, ug1, rfl, rfl, f1, e1⟩ := P9
  k_lt f1
  k_lt2 e1
  (all_goals (repeat ((with_reducible refine OQ.use (by assumption) ?_); (try dsimp only))))
  w_strict (k_steps)
  (all_goals (repeat ((with_reducible refine OQ.use (by assumption) ?_); (try dsimp only))))
  refine Stop.mk ?_
  refine opk (fun K9 hK9 => ?_)
  k_dflt (refine' con_step (get16i XB TB b ks _ 16 129 0 33024 _ _ hk (by decide) hk2 hl (by decide)) (by assumption) (by k_asm) (by k_asm) (by assumption) rfl rfl rfl ?hd75 ?hu75 ?hesc75 ?hret75)
  case hd75 => (dsimp only; first | exact dstep1 hdp rfl | exact dstep hdp rfl | omega)
  case hu75 => (dsimp only; first | exact dstep hun rfl | exact dstep1 hun rfl | omega)
  case hesc75 => exact fun _ _ _ _ q _ => q.elim
  intro r9 h' tk' news' F' N' P9
  (try k_sweep)
  (try dsimp only)
  obtain ⟨rfl, tk2, rfl⟩ := P9
  (all_goals (repeat ((with_reducible refine OQ.use (by assumption) ?_); (try dsimp only))))
  w_strict (k_steps)
  (all_goals (repeat ((with_reducible refine OQ.use (by assumption) ?_); (try dsimp only))))
  refine Stop.mk ?_
  refine opk (fun K9 hK9 => ?_)
  k_dflt (refine' con_step (unpacktag XB TB b ks _ 16 wa2 wb2 p2 v2 _ _ hk (by decide) hk2 hw2 hl hz2 hp20 hp21 hv20 hv21) (by assumption) (by k_asm) (by k_asm) (by assumption) rfl rfl rfl ?hd76 ?hu76 ?hesc76 ?hret76)
  case hd76 => (dsimp only; first | exact dstep1 hdp rfl | exact dstep hdp rfl | omega)
  case hu76 => (dsimp only; first | exact dstep hun rfl | exact dstep1 hun rfl | omega)
  case hesc76 => exact fun _ _ _ _ q _ => q.elim
  intro r9 h' tk' news' F' N' P9
  (try k_sweep)
  (try dsimp only)
  obtain ⟨x2, dx2, ua2, ub2, uc2, ud2, ue2, uf2, ug2, rfl, rfl, f2, e2⟩ := P9
  k_lt f2
  k_lt2 e2
  (all_goals (repeat ((with_reducible refine OQ.use (by assumption) ?_); (try dsimp only))))
  w_strict (k_steps)
  (all_goals (repeat ((with_reducible refine OQ.use (by assumption) ?_); (try dsimp only))))
  refine Stop.mk ?_
  refine opk (fun K9 hK9 => ?_)
  k_dflt (refine' con_step (get16i XB TB b ks _ 20 c0 c1 _ _ _ hk (by decide) hc hl rfl) (by assumption) (by k_asm) (by k_asm) (by assumption) rfl rfl rfl ?hd77 ?hu77 ?hesc77 ?hret77)
  case hd77 => (dsimp only; first | exact dstep1 hdp rfl | exact dstep hdp rfl | omega)
  case hu77 => (dsimp only; first | exact dstep hun rfl | exact dstep1 hun rfl | omega)
  case hesc77 => exact fun _ _ _ _ q _ => q.elim
  intro r9 h' tk' news' F' N' P9
  (try k_sweep)
  (try dsimp only)
  obtain ⟨rfl, tk9, rfl⟩ := P9
  (all_goals (repeat ((with_reducible refine OQ.use (by assumption) ?_); (try dsimp only))))
  w_strict (k_steps)
  (all_goals (repeat ((with_reducible refine OQ.use (by assumption) ?_); (try dsimp only))))
  (try dsimp only)
  k_steps
  (all_goals (repeat ((with_reducible refine OQ.use (by assumption) ?_); (try dsimp only))))
  k_dflt (refine' end_c (news' := (_, ⟨Value.type "tuple", none, Data.seq #[.ref _, .int 20 _] 0, #[]⟩) :: (_, ⟨Value.type "tuple", none, Data.seq #[.ref x1, .ref x2] 0, #[]⟩) :: (x1, instObj 230 dx1) :: (dx1, tagD w (.int 33024 ue1) (.int p1 uf1) (.bool false) (.int v1 ug1) ua1 ub1 uc1 ud1) :: (x2, instObj 230 dx2) :: (dx2, tagD w (.int 33024 ue2) (.int p2 uf2) (.bool false) (.int v2 ug2) ua2 ub2 uc2 ud2) :: news) (by k_asm) (news_sub (by k_asm) ?sb) TT ⟨_, _, _, x1, dx1, _, _, _, _, _, _, _, x2, dx2, _, _, _, _, _, _, _,  rfl, rfl⟩)
  case sb => (repeat (refine List.forall_mem_cons.mpr ⟨by k_mem, ?_⟩)); intro q hq; repeat (first | exact hq | refine List.mem_cons_of_mem _ ?_)
end
section
variable {w : World} {p : Program} {loose : List Str} {mean : ExcName → Option Value} {mg mb : Str → Option Value} {base : Heap} {news : List (Addr × Obj)}
theorem lt_of_all {d : Addr} : ∀ {l : List (Addr × Obj)}, AllLt d l → ∀ p ∈ l, p.1 < d
  | [], _ => fun _ h => nomatch h
  | _ :: _, h => fun p hp => by
    rcases List.mem_cons.mp hp with rfl | hp
    · exact h.1
    · exact lt_of_all h.2 p hp
inductive Ptagtold (w : World) (news : List (Addr × Obj)) (a : Addr) (dx : Addr) (k : Int) (pr : Int) (v : Int) (d : Bool) (t1 : Tok) (t2 : Tok) (t3 : Tok) (t4 : Tok) (u1 : Tok) (u2 : Tok) (u3 : Tok) (r : Value) (news' : List (Addr × Obj)) : Prop
  | mk (q) (f1 : r = .ref q) (f2 : news' = (q, ⟨Value.type "tuple", none, Data.seq #[.int k u1, .int pr u2, .bool d, .int v u3] 0, #[]⟩) :: (a, instObj 230 dx) :: (dx, tagD w (.int k u1) (.int pr u2) (.bool d) (.int v u3) t1 t2 t3 t4) :: news) (f3 : AllLt q ((a, instObj 230 dx) :: (dx, tagD w (.int k u1) (.int pr u2) (.bool d) (.int v u3) t1 t2 t3 t4) :: news))
theorem tagtold (XB : (Lw.head.heap_1 w.params).In base) (TB : Top p loose mean mg mb base) (a dx : Addr) (k pr v : Int) (d : Bool) (t1 t2 t3 t4 u1 u2 u3 : Tok) :
    Con w base 20 100 227 [.ref a] ((a, instObj 230 dx) :: (dx, tagD w (.int k u1) (.int pr u2) (.bool d) (.int v u3) t1 t2 t3 t4) :: news) (Ptagtold w news a dx k pr v d t1 t2 t3 t4 u1 u2 u3) (fun _ => False) := by
  w_on
  k_dflt (refine' con_defQ (binds := [(Str.ofString "self", .ref a)]) XB TB ?ho ?hcd ?hb ?hl ?hn ?_ ?c1 ?c2 ?c3 ?c4)
  case ho => k_is
  case hcd => k_is
  case hb => intro _ _; first | exact BindsTo.of_eq rfl | exact binds_K (by assumption) rfl (by k_is) rfl rfl rfl
  case hl => exact locs rfl
  case hn => first | decide | omega
  case c1 => decide
  case c2 => rfl
  case c3 => rfl
  case c4 => rfl
  intro dp un gd l sh9 sg9 sd9 sk9 so9 g L' h' Q1 E1 hdp hun AN F' N' l1 B' D' X' T' TT hQ1 hE1
  (try dsimp only)
  (try k_fold)
  (all_goals (repeat ((with_reducible refine OQ.use (by assumption) ?_); (try dsimp only))))
  w_strict (k_steps)
  (all_goals (repeat ((with_reducible refine OQ.use (by assumption) ?_); (try dsimp only))))
  (try dsimp only)
  (all_goals (repeat ((with_reducible refine OQ.use (by assumption) ?_); (try dsimp only))))
  exact end_c (by k_asm) (by k_asm) TT ⟨_, rfl, rfl, by assumption⟩
theorem drop23 {P : List (Addr × Obj)} {a b c : Addr × Obj} {g : Heap} {L : Addr} {h : Heap} (N : News g L h (c :: a :: b :: P)) : News g L h (c :: P) := fun p hp => by
  rcases List.mem_cons.mp hp with rfl | hp
  · exact N _ (.head _)
  · exact N p (List.mem_cons_of_mem _ (List.mem_cons_of_mem _ (List.mem_cons_of_mem _ hp)))
theorem rot3 {P : List (Addr × Obj)} {q i c d : Addr × Obj} {g : Heap} {L : Addr} {h : Heap} (N : News g L h (q :: i :: c :: d :: P)) : News g L h (i :: c :: d :: q :: P) := news_sub N (by intro p hp; simp only [List.mem_cons] at hp ⊢; rcases hp with h | h | h | h | h <;> simp [h])
def SBinds (w : World) (vs : List Value) (a : Addr) (m : Int) (tm : Tok) : Prop := ∀ oc od fd osl, (Lw.head.heap_1 w.params).lookup 261 = some ⟨oc, od, .func fd, osl⟩ → ∀ s : Shared, (Lw.head.heap_1 w.params).In s.heap → BindsTo s fd ⟨vs, []⟩ [(Str.ofString "self", .ref a), (Str.ofString "least", .int m tm)]
theorem sbinds2 (a : Addr) (m : Int) (tm : Tok) : SBinds w [.ref a, .int m tm] a m tm := by
  w_on
  intro oc od fd osl h s X
  have e := h.symm.trans (by k_is)
  cases e
  exact binds_K X rfl (by k_is) rfl rfl rfl
theorem sbinds1 (a : Addr) : SBinds w [.ref a] a 60 993 := by
  w_on
  intro oc od fd osl h s X
  have e := h.symm.trans (by k_is)
  cases e
  exact binds_K X rfl (by k_is) rfl rfl rfl
def NoList (new : List (Addr × Obj)) : Prop := ∀ p ∈ new, p.2.cls ≠ .type "list" ∧ p.2.cls ≠ .none
theorem bodyB_len (x y : Int) (ps : List (Int × Int)) (ln : Bool) (n : Nat) (ks : List Int) : (bodyB x y (tagsB ps) (kindB ln n) ks).length = 14 + 4 * ps.length + ks.length := by
  simp only [List.length_append, tagsB_len, kindB_len, List.length_cons, List.length_nil]; omega
inductive TagsTold (l : List (Addr × Obj)) : List (Int × Int) → List Value → Prop
  | nil : TagsTold l [] []
  | cons {g : Addr} {p v : Int} {ue uf ug : Tok} {ps : List (Int × Int)} {vs : List Value} : (g, (⟨Value.type "tuple", none, Data.seq #[.int 33024 ue, .int p uf, .bool false, .int v ug] 0, #[]⟩ : Obj)) ∈ l → TagsTold l ps vs → TagsTold l ((p, v) :: ps) (.ref g :: vs)
theorem TagsTold.mono {l l' : List (Addr × Obj)} (h : ∀ p ∈ l, p ∈ l') : ∀ {ps : List (Int × Int)} {vs : List Value}, TagsTold l ps vs → TagsTold l' ps vs
  | _, _, .nil => .nil
  | _, _, .cons a c => .cons (h _ a) (TagsTold.mono h c)
inductive TagsTup (l : List (Addr × Obj)) (ps : List (Int × Int)) (tt : Addr) : Prop
  | mk (vs n) (f1 : (tt, (⟨Value.type "tuple", none, Data.seq (List.toArray vs) n, #[]⟩ : Obj)) ∈ l) (f2 : TagsTold l ps vs)
theorem TagsTup.mono {l l' : List (Addr × Obj)} {ps : List (Int × Int)} {tt : Addr} (h : ∀ p ∈ l, p ∈ l') (T : TagsTup l ps tt) : TagsTup l' ps tt := by
  obtain ⟨vs, n, h1, h2⟩ := T
  exact ⟨vs, n, h _ h1, h2.mono h⟩
def CutN {α : Type} (s : Shared) (g : Heap) (L : Addr) (m : Str → Option Value) (news : List (Addr × Obj)) (P : α → List (Addr × Obj) → Prop) (v : α) (s' : Shared) : Prop := ∃ h' tk' ex, s' = { s with heap := h', toks := tk' } ∧ Fr g L h' m ∧ News g L h' (ex ++ news) ∧ P v ex
theorem cut_atN {M : Model} {A : Around} {s : Shared} {g : Heap} {L : Addr} {m : Str → Option Value} {α : Type} {x : Sem α} {Q : α → Shared → Prop} {E : Value → Shared → Prop} (P : α → List (Addr × Obj) → Prop) (F : Fr g L s.heap m) (N : News g L s.heap news) (h1 : GoIf → wpAny M A x (fun v s' => CutN s g L m news P v s') (fun _ _ => False) s)
    (h2 : ∀ v h' tk' ex, Fr g L h' m → News g L h' (ex ++ news) → P v ex → Q v { s with heap := h', toks := tk' }) : wpAny M A x Q E s :=
  wpAny_mono (h1 trivial) (fun v s' hc => by
    obtain ⟨h', tk', ex, rfl, F', N', x⟩ := hc
    exact h2 v h' tk' ex F' N' x) fun _ _ q => q.elim
theorem cutN_end {s : Shared} {g : Heap} {L : Addr} {m : Str → Option Value} {α : Type} {P : α → List (Addr × Obj) → Prop} {v : α} {h' : Heap} {tk' : Nat} (ex : List (Addr × Obj)) (F' : Fr g L h' m) (N' : News g L h' (ex ++ news)) (x : P v ex) : CutN s g L m news P v { s with heap := h', toks := tk' } := ⟨h', tk', ex, rfl, F', N', x⟩
local macro_rules | `(tactic| walk_at "call builtin:len") => `(tactic| (k_here; (with_reducible show wpAny _ _ (call (Value.builtin "len") [Value.ref _]) _ _ _); k_dflt (refine tup_len (by k_asm) (by k_mem) (by assumption) (by assumption) ?_); (try dsimp only)))
local macro_rules | `(tactic| walk_at "eval Call Name") => `(tactic| ((with_reducible show wpAny _ _ (eval (Expr.Call (Expr.Name ("tuple" : Str) _) _ _ _) _) _ _ _); (fail_if_success (rename GoIf => hGo9)); refine stop_ ?_))
theorem size_in (XB : (Lw.head.heap_1 w.params).In base) (TB : Top p loose mean mg mb base) {l : List (Addr × Obj)} {a : Addr} {x y : Int} {ps : List (Int × Int)} {kd : Value} {b : Array UInt8} (ln : Bool) (ks : List Int) (Fi : FrameIn w l a x y ps kd b) (hk : KindV kd ln) (hb : KBw.bInts b = ks) (hl : ks.length ≤ 3000) (hn : ps.length ≤ 2) (least : Int) (tl : Tok) (vs : List Value) (HB : SBinds w vs a least tl) :
    Con w base 20 100 261 vs l (fun r news' => news' = l ∧ ∃ tr, r = .int (max least (14 + 4 * (ps.length : Int) + (ks.length : Int)) + 4) tr) (fun _ => False) := by
  obtain ⟨dx, ta, ts, n, tx, ty, tb, t1, t2, t3, t4, t5, m1, m2, m3, T⟩ := Fi
  w_on
  k_dflt (refine' con_defQ (binds := [(Str.ofString "self", .ref a), (Str.ofString "least", .int least tl)]) XB TB ?ho ?hcd ?hb ?hl ?hn ?_ ?c1 ?c2 ?c3 ?c4)
  case ho => k_is
  case hcd => k_is
  case hb => exact HB _ _ _ _ (by k_is)
  case hl => exact locs rfl
  case hn => first | decide | omega
  case c1 => decide
  case c2 => rfl
  case c3 => rfl
  case c4 => rfl
  intro dp un gd l sh9 sg9 sd9 sk9 so9 g L' h' Q1 E1 hdp hun AN F' N' l1 B' D' X' T' TT hQ1 hE1
  (try dsimp only)
  (try k_fold)
  (all_goals (repeat ((with_reducible refine OQ.use (by assumption) ?_); (try dsimp only))))
  w_strict (k_steps)
  (all_goals (repeat ((with_reducible refine OQ.use (by assumption) ?_); (try dsimp only))))
  (all_goals (repeat ((with_reducible refine OQ.use (by assumption) ?_); (try dsimp only))))
  exact end_c (by k_asm) (by k_asm) TT ⟨rfl, _, congrArg (Value.int · _) (by first | (split <;> omega) | omega)⟩
local macro_rules | `(tactic| k_handed) => `(tactic| with_reducible assumption)
theorem kind_handed {kd : Value} : ∀ {ln : Bool}, KindV kd ln → handedIn kd = true
  | true, h => by
    obtain rfl : kd = .none := h
    rfl
  | false, h => by
    obtain ⟨t, rfl⟩ : ∃ t, kd = .int 2048 t := h
    rfl
inductive Ptold_in (ld : List (Addr × Obj)) (x : Int) (y : Int) (ps : List (Int × Int)) (kd : Value) (b : Array UInt8) (r : Value) (news' : List (Addr × Obj)) : Prop
  | mk (new) (f1 : news' = new ++ ld) (q tt tx ty tb new') (f2 : r = .ref q) (f3 : new = (q, (⟨Value.type "tuple", none, Data.seq #[.int x tx, .int y ty, .ref tt, kd, .bytes b tb] 0, #[]⟩ : Obj)) :: new') (f4 : TagsTup new' ps tt) (f5 : ∀ p ∈ new', ∃ its n, p.2 = (⟨Value.type "tuple", none, Data.seq its n, #[]⟩ : Obj))
theorem told_in (XB : (Lw.head.heap_1 w.params).In base) (TB : Top p loose mean mg mb base) {ld : List (Addr × Obj)} {a : Addr} {x y : Int} {ps : List (Int × Int)} {kd : Value} {b : Array UInt8} (ln : Bool) (Fi : FrameIn w ld a x y ps kd b) (hk : KindV kd ln) (hn : ps.length ≤ 2) :
    Con w base 60 400 253 [.ref a] ld (Ptold_in ld x y ps kd b) (fun _ => False) := by
  obtain ⟨dx, ta, ts, n, tx, ty, tb, t1, t2, t3, t4, t5, m1, m2, m3, T⟩ := Fi
  have hkd9 := kind_handed hk
  w_on
  k_dflt (refine' con_defQ (binds := [(Str.ofString "self", .ref a)]) XB TB ?ho ?hcd ?hb ?hl ?hn ?_ ?c1 ?c2 ?c3 ?c4)
  case ho => k_is
  case hcd => k_is
  case hb => intro _ _; first | exact BindsTo.of_eq rfl | exact binds_K (by assumption) rfl (by k_is) rfl rfl rfl
  case hl => exact locs rfl
  case hn => first | decide | omega
  case c1 => decide
  case c2 => rfl
  case c3 => rfl
  case c4 => rfl
  intro dp un gd l sh9 sg9 sd9 sk9 so9 g L' h' Q1 E1 hdp hun AN F' N' l1 B' D' X' T' TT hQ1 hE1
  (try dsimp only)
  (try k_fold)
  (all_goals (repeat ((with_reducible refine OQ.use (by assumption) ?_); (try dsimp only))))
  w_strict (k_steps)
  (all_goals (repeat ((with_reducible refine OQ.use (by assumption) ?_); (try dsimp only))))
  refine Stop.mk ?_
  k_dflt (refine cut_atN (fun v ex => ∃ tt, v = .ref tt ∧ TagsTup ex ps tt ∧ ∀ p ∈ ex, ∃ its n, p.2 = (⟨Value.type "tuple", none, Data.seq its n, #[]⟩ : Obj)) (by k_asm) (by k_asm) ?cutJ1 ?cutJ2)
  case cutJ1 =>
    intro go
    cases T with
    | nil =>
      (all_goals (repeat ((with_reducible refine OQ.use (by assumption) ?_); (try dsimp only))))
      w_strict (k_steps)
      (all_goals (repeat ((with_reducible refine OQ.use (by assumption) ?_); (try dsimp only))))
      (all_goals (repeat ((with_reducible refine OQ.use (by assumption) ?_); (try dsimp only))))
      refine' cutN_end [(_, ⟨Value.type "tuple", none, Data.seq #[] 0, #[]⟩)] (by k_asm) ?ex0 ⟨_, rfl, ⟨_, _, .head _, .nil⟩, List.forall_mem_cons.mpr ⟨⟨_, _, rfl⟩, List.forall_mem_nil _⟩⟩
      case ex0 => exact (news_sub (by k_asm) (by (repeat (refine List.forall_mem_cons.mpr ⟨by k_mem, ?_⟩)); exact fun q hq => by repeat (first | exact hq | refine List.mem_cons_of_mem _ ?_)))
    | cons g1 d1 T =>
      cases T with
      | nil =>
        (all_goals (repeat ((with_reducible refine OQ.use (by assumption) ?_); (try dsimp only))))
        w_strict (k_steps)
        (all_goals (repeat ((with_reducible refine OQ.use (by assumption) ?_); (try dsimp only))))
        refine Stop.mk ?_
        refine opk (fun K9 hK9 => ?_)
        k_dflt (refine' con_step (tagtold XB TB _ _ 33024 _ _ false _ _ _ _ _ _ _) (by assumption) (by k_asm) (news_dup2 (by k_asm) (by k_mem) (by k_mem)) (by assumption) rfl rfl rfl ?hd81 ?hu81 ?hesc81 ?hret81)
        case hd81 => (dsimp only; first | exact dstep1 hdp rfl | exact dstep hdp rfl | omega)
        case hu81 => (dsimp only; first | exact dstep hun rfl | exact dstep1 hun rfl | omega)
        case hesc81 => exact fun _ _ _ _ q _ => q.elim
        intro r9 h' tk' news' F' N' P9
        (try k_sweep)
        (try dsimp only)
        obtain ⟨q1, rfl, rfl, f1⟩ := P9
        simp only [AllLt] at f1
        rcases rot3 (drop23 N') with N2
        clear N'
        (all_goals (repeat ((with_reducible refine OQ.use (by assumption) ?_); (try dsimp only))))
        w_strict (k_steps)
        (all_goals (repeat ((with_reducible refine OQ.use (by assumption) ?_); (try dsimp only))))
        (all_goals (repeat ((with_reducible refine OQ.use (by assumption) ?_); (try dsimp only))))
        refine' cutN_end [(_, ⟨Value.type "tuple", none, Data.seq #[.ref q1] 0, #[]⟩), (q1, ⟨Value.type "tuple", none, Data.seq #[.int 33024 _, .int _ _, .bool false, .int _ _] 0, #[]⟩)] (by k_asm) ?ex1 ⟨_, rfl, ⟨_, _, .head _, .cons (.tail _ (.head _)) .nil⟩, List.forall_mem_cons.mpr ⟨⟨_, _, rfl⟩, List.forall_mem_cons.mpr ⟨⟨_, _, rfl⟩, List.forall_mem_nil _⟩⟩⟩
        case ex1 => exact (news_sub (by k_asm) (by (repeat (refine List.forall_mem_cons.mpr ⟨by k_mem, ?_⟩)); exact fun q hq => by repeat (first | exact hq | refine List.mem_cons_of_mem _ ?_)))
      | cons g2 d2 T =>
        cases T with
        | nil =>
          (all_goals (repeat ((with_reducible refine OQ.use (by assumption) ?_); (try dsimp only))))
          w_strict (k_steps)
          (all_goals (repeat ((with_reducible refine OQ.use (by assumption) ?_); (try dsimp only))))
          refine Stop.mk ?_
          refine opk (fun K9 hK9 => ?_)
          k_dflt (refine' con_step (tagtold XB TB _ _ 33024 _ _ false _ _ _ _ _ _ _) (by assumption) (by k_asm) (news_dup2 (by k_asm) (by k_mem) (by k_mem)) (by assumption) rfl rfl rfl ?hd82 ?hu82 ?hesc82 ?hret82)
          case hd82 => (dsimp only; first | exact dstep1 hdp rfl | exact dstep hdp rfl | omega)
          case hu82 => (dsimp only; first | exact dstep hun rfl | exact dstep1 hun rfl | omega)
          case hesc82 => exact fun _ _ _ _ q _ => q.elim
          intro r9 h' tk' news' F' N' P9
          (try k_sweep)
          (try dsimp only)
          obtain ⟨q1, rfl, rfl, f1⟩ := P9
          simp only [AllLt] at f1
          rcases rot3 (drop23 N') with N2
          clear N'
          (all_goals (repeat ((with_reducible refine OQ.use (by assumption) ?_); (try dsimp only))))
          w_strict (k_steps)
          (all_goals (repeat ((with_reducible refine OQ.use (by assumption) ?_); (try dsimp only))))
          refine Stop.mk ?_
          refine opk (fun K9 hK9 => ?_)
          k_dflt (refine' con_step (tagtold XB TB _ _ 33024 _ _ false _ _ _ _ _ _ _) (by assumption) (by k_asm) (news_dup2 (by k_asm) (by k_mem) (by k_mem)) (by assumption) rfl rfl rfl ?hd83 ?hu83 ?hesc83 ?hret83)
          case hd83 => (dsimp only; first | exact dstep1 hdp rfl | exact dstep hdp rfl | omega)
          case hu83 => (dsimp only; first | exact dstep hun rfl | exact dstep1 hun rfl | omega)
          case hesc83 => exact fun _ _ _ _ q _ => q.elim
          intro r9 h' tk' news' F' N' P9
          (try k_sweep)
          (try dsimp only)
          obtain ⟨q2, rfl, rfl, f2⟩ := P9
          simp only [AllLt] at f2
          rcases rot3 (drop23 N') with N2
          clear N'
          (all_goals (repeat ((with_reducible refine OQ.use (by assumption) ?_); (try dsimp only))))
          w_strict (k_steps)
          (all_goals (repeat ((with_reducible refine OQ.use (by assumption) ?_); (try dsimp only))))
          (all_goals (repeat ((with_reducible refine OQ.use (by assumption) ?_); (try dsimp only))))
          refine' cutN_end [(_, ⟨Value.type "tuple", none, Data.seq #[.ref q1, .ref q2] 0, #[]⟩), (q1, ⟨Value.type "tuple", none, Data.seq #[.int 33024 _, .int _ _, .bool false, .int _ _] 0, #[]⟩), (q2, ⟨Value.type "tuple", none, Data.seq #[.int 33024 _, .int _ _, .bool false, .int _ _] 0, #[]⟩)] (by k_asm) ?ex2 ⟨_, rfl, ⟨_, _, .head _, .cons (.tail _ (.head _)) (.cons (.tail _ (.tail _ (.head _))) .nil)⟩, List.forall_mem_cons.mpr ⟨⟨_, _, rfl⟩, List.forall_mem_cons.mpr ⟨⟨_, _, rfl⟩, List.forall_mem_cons.mpr ⟨⟨_, _, rfl⟩, List.forall_mem_nil _⟩⟩⟩⟩
          case ex2 => exact (news_sub (by k_asm) (by (repeat (refine List.forall_mem_cons.mpr ⟨by k_mem, ?_⟩)); exact fun q hq => by repeat (first | exact hq | refine List.mem_cons_of_mem _ ?_)))
        | cons g3 d3 T => simp only [List.length_cons] at hn; omega
  case cutJ2 =>
  intro v h' tk' ex F' N' hv
  obtain ⟨tt, rfl, hTT, hex⟩ := hv
  obtain ⟨l2, hl2, hs2⟩ : ∃ l2, l2 = ex ++ ld ∧ ∀ p ∈ ld, p ∈ l2 := ⟨_, rfl, fun p hp => List.mem_append_right _ hp⟩
  rw [← hl2] at N'
  replace m1 := hs2 _ m1
  replace m2 := hs2 _ m2
  (all_goals (repeat ((with_reducible refine OQ.use (by assumption) ?_); (try dsimp only))))
  w_strict (k_steps)
  (all_goals (repeat ((with_reducible refine OQ.use (by assumption) ?_); (try dsimp only))))
  (try dsimp only)
  (all_goals (repeat ((with_reducible refine OQ.use (by assumption) ?_); (try dsimp only))))
  refine end_c (by k_asm) (by k_asm) TT ⟨_ :: ex, by rw [hl2]; rfl, _, tt, _, _, _, ex, rfl, rfl, hTT, hex⟩
end
local macro_rules | `(tactic| walk_at "exec While Compare cons nil") => `(tactic| (k_here; k_dflt (refine whl_start 100 ?_)))
local macro_rules | `(tactic| walk_at "compareOp NotEq bytes bytes") => `(tactic| (refine stop_ ?_))
local macro_rules | `(tactic| walk_at "compareOp Eq bytes bytes") => `(tactic| (refine stop_ ?_))
local macro_rules | `(tactic| walk_at "subscriptTail") => `(tactic| (k_here; (with_reducible show wpAny _ _ (subscriptTail _ (Expr.Slice (some (Expr.BinOp _ _ _ _)) none none _) (Value.bytes _ _) (Value.ref _)) _ _ _); (with_reducible rename Fr _ _ _ _ => F'); (with_reducible rename News _ _ _ _ => N'); (refine KBc.slice_K (s := ⟨_, _, _, _, _⟩) F' N' (by kba_ints) (by constructor) (by constructor) (by kba_size) ?_); intro _ _ _ _ _ kbcK; k_dflt (replace kbcK := kbcK.trans (drop_from (by assumption) (by omega) (by omega)))))
section
variable {w : World} {p : Program} {loose : List Str} {mean : ExcName → Option Value} {mg mb : Str → Option Value} {base : Heap} {news : List (Addr × Obj)}
theorem bInts_inj {b c : Array UInt8} (h : KBw.bInts b = KBw.bInts c) : b = c := by
  have e : b.toList = c.toList := (List.map_inj_right (fun x y q => UInt8.toNat_inj.mp (Int.ofNat.inj q))).mp h
  exact Array.toList_inj.mp e
theorem ne_same {prog : Program} {A : Around} {E : Value → Shared → Prop} {s : Shared} {b c : Array UInt8} {ks : List Int} {t u : Tok} {Q : Value → Shared → Prop} (hb : KBw.bInts b = ks) (hc : KBw.bInts c = ks) (h : Q (.bool false) s) : wpAny (model prog w) A (compareOp .NotEq (.bytes b t) (.bytes c u)) Q E s := by
  refine ne_bytes ?_
  rw [bInts_inj (hb.trans hc.symm)]
  simpa using h
theorem eq_same {prog : Program} {A : Around} {E : Value → Shared → Prop} {s : Shared} {b c : Array UInt8} {ks : List Int} {t u : Tok} {Q : Value → Shared → Prop} (hb : KBw.bInts b = ks) (hc : KBw.bInts c = ks) (h : Q (.bool true) s) : wpAny (model prog w) A (compareOp .Eq (.bytes b t) (.bytes c u)) Q E s := by
  refine eq_bytes ?_
  rw [bInts_inj (hb.trans hc.symm)]
  simpa using h
local macro_rules | `(tactic| walk_at "compareOp NotEq bytes bytes") => `(tactic| (refine stop_ ?_))
local macro_rules | `(tactic| walk_at "compareOp Eq bytes bytes") => `(tactic| (refine stop_ ?_))
theorem drop_from {fl P : List Int} {i : Int} {j : Nat} (hp : fl.drop j = P) (hi : i = (j : Nat)) (hj : j ≤ fl.length) : (fl.drop (clipAt fl.length i)).take (fl.length - clipAt fl.length i) = P := by
  subst hi hp
  rw [clipAt_nat, Nat.min_eq_left hj, List.take_of_length_le (by rw [List.length_drop]; omega)]
theorem cut_k {P : List Int} {K : Int} (h0 : 0 ≤ K) (h1 : K ≤ P.length) : P.take (clipAt P.length K) = P.take K.toNat := by
  obtain ⟨k, rfl⟩ := Int.eq_ofNat_of_zero_le h0
  rw [clipAt_nat, Nat.min_eq_left (by first | decide | omega), Int.toNat_natCast]
local macro_rules | `(tactic| walk_at "subscriptTail") => `(tactic| (k_here; (with_reducible show wpAny _ _ (subscriptTail _ (Expr.Slice (some (Expr.BinOp _ _ _ _)) none none _) (Value.bytes _ _) (Value.ref _)) _ _ _); (with_reducible rename Fr _ _ _ _ => F'); (with_reducible rename News _ _ _ _ => N'); (refine KBc.slice_K (s := ⟨_, _, _, _, _⟩) F' N' (by kba_ints) (by constructor) (by constructor) (by kba_size) ?_); intro _ _ _ _ _ kbcK; k_dflt (replace kbcK := kbcK.trans (drop_from (by assumption) (by omega) (by omega)))))
theorem cut_lo {al fl sl : List Int} {i : Int} (ha : al = fl ++ sl) (hi : i = (fl.length : Nat)) : al.take (clipAt al.length i) = fl := by
  subst hi
  rw [clipAt_nat, ha, Nat.min_eq_left (by rw [List.length_append]; omega)]
  exact List.take_left
theorem cut_hi {al fl sl : List Int} (ha : al = fl ++ sl) : (al.drop (min fl.length al.length)).take (al.length - min fl.length al.length) = sl := by
  rw [ha, Nat.min_eq_left (by rw [List.length_append]; omega), List.drop_left, List.length_append, Nat.add_sub_cancel_left, List.take_length]
def UBinds (w : World) (vs : List Value) (b : Array UInt8) (tb : Tok) (m : Int) (tm : Tok) : Prop := ∀ oc od fd osl, (Lw.head.heap_1 w.params).lookup 310 = some ⟨oc, od, .func fd, osl⟩ → ∀ s : Shared, (Lw.head.heap_1 w.params).In s.heap → BindsTo s fd ⟨vs, []⟩ [(Str.ofString "octets", .bytes b tb), (Str.ofString "most", .int m tm)]
theorem ubinds2 (b : Array UInt8) (tb : Tok) (m : Int) (tm : Tok) : UBinds w [.bytes b tb, .int m tm] b tb m tm := by
  w_on
  intro oc od fd osl h s X
  have e := h.symm.trans (by k_is)
  cases e
  exact binds_K X rfl (by k_is) rfl rfl rfl
theorem ubinds1 (b : Array UInt8) (tb : Tok) : UBinds w [.bytes b tb] b tb 1522 1126 := by
  w_on
  intro oc od fd osl h s X
  have e := h.symm.trans (by k_is)
  cases e
  exact binds_K X rfl (by k_is) rfl rfl rfl
theorem unpackframeL (XB : (Lw.head.heap_1 w.params).In base) (TB : Top p loose mean mg mb base) (b : Array UInt8) (al : List Int) (m : Int) (tb tm : Tok) (vs : List Value) (HB : UBinds w vs b tb m tm) (hb : KBw.bInts b = al) (h0 : 64 ≤ al.length) (h1 : al.length ≤ 6000) (hm : m < al.length) :
    Con w base 100 1500 310 vs news (fun r news' => False) (fun c => c = .ref 151) := by
  w_on
  k_dflt (refine' con_defQ (binds := [(Str.ofString "octets", .bytes b tb), (Str.ofString "most", .int m tm)]) XB TB ?ho ?hcd ?hb ?hl ?hn ?_ ?c1 ?c2 ?c3 ?c4)
  case ho => k_is
  case hcd => k_is
  case hb => exact HB _ _ _ _ (by k_is)
  case hl => exact locs rfl
  case hn => first | decide | omega
  case c1 => decide
  case c2 => rfl
  case c3 => rfl
  case c4 => rfl
  intro dp un gd l sh9 sg9 sd9 sk9 so9 g L' h' Q1 E1 hdp hun AN F' N' l1 B' D' X' T' TT hQ1 hE1
  (try dsimp only)
  (try k_fold)
  (all_goals (repeat ((with_reducible refine OQ.use (by assumption) ?_); (try dsimp only))))
  w_strict (k_steps)
  (all_goals (repeat ((with_reducible refine OQ.use (by assumption) ?_); (try dsimp only))))
inductive PUT (w : World) (ps : List (Int × Int)) (nt : Nat) (news : List (Addr × Obj)) (r : Value) (news' : List (Addr × Obj)) : Prop
  | mk (new : List (Addr × Obj)) (r9 ft : Addr) (u0 : Tok) (a9 : Int) (vts : List Value) (n : Nat) (f1 : r = .ref r9) (f2 : news' = new ++ news) (f3 : (r9, (⟨Value.type "tuple", none, Data.seq #[.ref ft, .int a9 u0] 0, #[]⟩ : Obj)) ∈ new) (f4 : (ft, (⟨Value.type "tuple", none, Data.seq (List.toArray vts) n, #[]⟩ : Obj)) ∈ new) (f5 : TagsIn w new ps vts) (f6 : a9 = 12 + 4 * (nt : Int))
inductive PUF (w : World) (x y : Int) (ps : List (Int × Int)) (ln : Bool) (P : List Int) (K : Int) (ld : List (Addr × Obj)) (r : Value) (news' : List (Addr × Obj)) : Prop
  | mk (new : List (Addr × Obj)) (z : Addr) (kd : Value) (pb : Array UInt8) (f1 : r = .ref z) (f2 : news' = new ++ ld) (f3 : FrameIn w new z x y ps kd pb) (f4 : KindV kd ln) (f5 : ln = true → KBw.bInts pb = P.take K.toNat) (f6 : ln = false → KBw.bInts pb = P)
theorem news_fin {g h : Heap} {L : Addr} {a b c d : Addr × Obj} {new ld l2 : List (Addr × Obj)} (e : l2 = new ++ ld) (N : News g L h (a :: b :: c :: d :: l2)) : News g L h ((a :: b :: new) ++ ld) := news_sub N (by
  subst e
  intro p hp
  simp only [List.cons_append, List.mem_cons, List.mem_append] at hp ⊢
  rcases hp with h | h | h | h <;> simp [h])
theorem unpackframe_g (XB : (Lw.head.heap_1 w.params).In base) (TB : Top p loose mean mg mb base) {ld : List (Addr × Obj)} (b : Array UInt8) (fl P : List Int) (x y c0 c1 K m : Int) (ps : List (Int × Int)) (ln : Bool) (nt : Nat) (tb tm : Tok) (vs : List Value) (HB : UBinds w vs b tb m tm) (hb : KBw.bInts b = fl ++ sumS fl) (hn0 : 60 ≤ fl.length) (hn1 : fl.length ≤ 5000) (hm : (fl.length : Int) + 4 ≤ m)
    (hx0 : 0 ≤ x) (hx1 : x < 281474976710656) (hy0 : 0 ≤ y) (hy1 : y < 281474976710656) (hx : (fl.drop 0).take 6 = be6 x) (hy : (fl.drop 6).take 6 = be6 y) (hnt : nt ≤ 2) (hc : (fl.drop (12 + 4 * nt)).take 2 = [c0, c1]) (hK : c0 * 256 + c1 = K) (hKt : ln = true → 0 ≤ K ∧ K ≤ 1500 ∧ K ≤ P.length) (hKf : ln = false → K = 2048) (hp : fl.drop (14 + 4 * nt) = P)
    (UT : ∀ (b' : Array UInt8) (tb' t' : Tok) (news : List (Addr × Obj)), KBw.bInts b' = fl → Con w base 70 900 302 [.bytes b' tb', .int 12 t'] news (PUT w ps nt news) (fun _ => False)) :
    Con w base 100 1500 310 vs ld (PUF w x y ps ln P K ld) (fun _ => False) := by
  obtain ⟨al, hal⟩ : ∃ al, al = fl ++ sumS fl := ⟨_, rfl⟩
  have hal2 : al.length = fl.length + 4 := by rw [hal, List.length_append]; rfl
  have hlP : P.length ≤ 5000 := by rw [← hp, List.length_drop]; omega
  rw [← hal] at hb
  w_on
  k_dflt (refine' con_defQ (binds := [(Str.ofString "octets", .bytes b tb), (Str.ofString "most", .int m tm)]) XB TB ?ho ?hcd ?hb ?hl ?hn ?_ ?c1 ?c2 ?c3 ?c4)
  case ho => k_is
  case hcd => k_is
  case hb => exact HB _ _ _ _ (by k_is)
  case hl => exact locs rfl
  case hn => first | decide | omega
  case c1 => decide
  case c2 => rfl
  case c3 => rfl
  case c4 => rfl
  intro dp un gd l sh9 sg9 sd9 sk9 so9 g L' h' Q1 E1 hdp hun AN F' N' l1 B' D' X' T' TT hQ1 hE1
  (try dsimp only)
  (try k_fold)
  (all_goals (repeat ((with_reducible refine OQ.use (by assumption) ?_); (try dsimp only))))
  w_strict (k_steps)
  (all_goals (repeat ((with_reducible refine OQ.use (by assumption) ?_); (try dsimp only))))
  rename KBw.bInts (KBy.picked _ _ _) = _ => hh
  replace hh := hh.trans (cut_lo hal (by first | decide | omega))
  refine Stop.mk ?_
  refine opk (fun K9 hK9 => ?_)
  k_dflt (refine' con_step (sum_con XB TB _ fl _ hh) (by assumption) (by k_asm) (by k_asm) (by assumption) rfl rfl rfl ?hd86 ?hu86 ?hesc86 ?hret86)
  case hd86 => (dsimp only; first | exact dstep1 hdp rfl | exact dstep hdp rfl | omega)
  case hu86 => (dsimp only; first | exact dstep hun rfl | exact dstep1 hun rfl | omega)
  case hesc86 => exact fun _ _ _ _ q _ => q.elim
  intro r9 h' tk' news' F' N' P9
  (try k_sweep)
  (try dsimp only)
  obtain ⟨e9, b4, tb4, rfl, hb4⟩ := P9
  obtain rfl := e9.symm
  (all_goals (repeat ((with_reducible refine OQ.use (by assumption) ?_); (try dsimp only))))
  w_strict (k_steps)
  (all_goals (repeat ((with_reducible refine OQ.use (by assumption) ?_); (try dsimp only))))
  refine Stop.mk ?_
  rename KBw.bInts (KBy.picked _ (some _) _) = _ => hj
  replace hj := hj.trans (cut_hi hal)
  (all_goals (repeat ((with_reducible refine OQ.use (by assumption) ?_); (try dsimp only))))
  k_dflt (refine ne_same hb4 hj ?_)
  (all_goals (repeat ((with_reducible refine OQ.use (by assumption) ?_); (try dsimp only))))
  w_strict (k_steps)
  (all_goals (repeat ((with_reducible refine OQ.use (by assumption) ?_); (try dsimp only))))
  refine Stop.mk ?_
  refine opk (fun K9 hK9 => ?_)
  k_dflt (refine' con_step (UT _ _ _ _ hh) (by assumption) (by k_asm) (by k_asm) (by assumption) rfl rfl rfl ?hd87 ?hu87 ?hesc87 ?hret87)
  case hd87 => (dsimp only; first | exact dstep1 hdp rfl | exact dstep hdp rfl | omega)
  case hu87 => (dsimp only; first | exact dstep hun rfl | exact dstep1 hun rfl | omega)
  case hesc87 => exact fun _ _ _ _ q _ => q.elim
  intro r9 h' tk' news' F' N' P9
  (try k_sweep)
  (try dsimp only)
  obtain ⟨new, r9, ft, u0, a9, vts, n9, rfl, rfl, g1, g2, g3, ha9⟩ := P9
  obtain ⟨l2, hl2, hs2⟩ : ∃ l2, l2 = new ++ ld ∧ ∀ p ∈ new, p ∈ l2 := ⟨_, rfl, fun p hp => List.mem_append_left _ hp⟩
  rw [← hl2] at N'
  have g1' := hs2 _ g1
  have g2' := hs2 _ g2
  (all_goals (repeat ((with_reducible refine OQ.use (by assumption) ?_); (try dsimp only))))
  w_strict (k_steps)
  (all_goals (repeat ((with_reducible refine OQ.use (by assumption) ?_); (try dsimp only))))
  refine Stop.mk ?_
  refine opk (fun K9 hK9 => ?_)
  k_dflt (refine' con_step (get16i XB TB _ fl _ (12 + 4 * nt) c0 c1 K _ _ hh (by first | decide | omega) hc (by first | decide | omega) hK) (by assumption) (by k_asm) (by k_asm) (by assumption) rfl rfl rfl ?hd88 ?hu88 ?hesc88 ?hret88)
  case hd88 => (dsimp only; first | exact dstep1 hdp rfl | exact dstep hdp rfl | omega)
  case hu88 => (dsimp only; first | exact dstep hun rfl | exact dstep1 hun rfl | omega)
  case hesc88 => exact fun _ _ _ _ q _ => q.elim
  intro r9 h' tk' news' F' N' P9
  (try k_sweep)
  (try dsimp only)
  obtain ⟨rfl, tk9, rfl⟩ := P9
  cases ln with
  | false =>
    have hKv := hKf rfl
    (all_goals (repeat ((with_reducible refine OQ.use (by assumption) ?_); (try dsimp only))))
    w_strict (k_steps)
    (all_goals (repeat ((with_reducible refine OQ.use (by assumption) ?_); (try dsimp only))))
    refine Stop.mk ?_
    refine opk (fun K9 hK9 => ?_)
    k_dflt (refine' con_step (get48i XB TB _ fl _ 0 x _ _ hh (by decide) hx (by first | decide | omega) hx0 hx1) (by assumption) (by k_asm) (by k_asm) (by assumption) rfl rfl rfl ?hd89 ?hu89 ?hesc89 ?hret89)
    case hd89 => (dsimp only; first | exact dstep1 hdp rfl | exact dstep hdp rfl | omega)
    case hu89 => (dsimp only; first | exact dstep hun rfl | exact dstep1 hun rfl | omega)
    case hesc89 => exact fun _ _ _ _ q _ => q.elim
    intro r9 h' tk' news' F' N' P9
    (try k_sweep)
    (try dsimp only)
    obtain ⟨rfl, tkx, rfl⟩ := P9
    (all_goals (repeat ((with_reducible refine OQ.use (by assumption) ?_); (try dsimp only))))
    w_strict (k_steps)
    (all_goals (repeat ((with_reducible refine OQ.use (by assumption) ?_); (try dsimp only))))
    refine Stop.mk ?_
    refine opk (fun K9 hK9 => ?_)
    k_dflt (refine' con_step (get48i XB TB _ fl _ 6 y _ _ hh (by decide) hy (by first | decide | omega) hy0 hy1) (by assumption) (by k_asm) (by k_asm) (by assumption) rfl rfl rfl ?hd90 ?hu90 ?hesc90 ?hret90)
    case hd90 => (dsimp only; first | exact dstep1 hdp rfl | exact dstep hdp rfl | omega)
    case hu90 => (dsimp only; first | exact dstep hun rfl | exact dstep1 hun rfl | omega)
    case hesc90 => exact fun _ _ _ _ q _ => q.elim
    intro r9 h' tk' news' F' N' P9
    (try k_sweep)
    (try dsimp only)
    obtain ⟨rfl, tky, rfl⟩ := P9
    (all_goals (repeat ((with_reducible refine OQ.use (by assumption) ?_); (try dsimp only))))
    w_strict (k_steps)
    (all_goals (repeat ((with_reducible refine OQ.use (by assumption) ?_); (try dsimp only))))
    refine Stop.mk ?_
    refine opk (fun K9 hK9 => ?_)
    k_dflt (refine' con_step (frame_con XB TB _ _ _ ft _ _ _ _) (by assumption) (by k_asm) (news_dup1 (by k_asm) (by k_mem)) (by assumption) rfl rfl rfl ?hd91 ?hu91 ?hesc91 ?hret91)
    case hd91 => (dsimp only; first | exact dstep1 hdp rfl | exact dstep hdp rfl | omega)
    case hu91 => (dsimp only; first | exact dstep hun rfl | exact dstep1 hun rfl | omega)
    case hesc91 => exact fun _ _ _ _ q _ => q.elim
    intro r9 h' tk' news' F' N' P9
    (try k_sweep)
    (try dsimp only)
    obtain ⟨z, dx, t1, t2, t3, t4, t5, tpb, rfl, rfl, f1, f2, f3⟩ := P9
    k_steps
    rename KBw.bInts (KBy.picked (KBy.picked _ _ _) _ _) = _ => hq
    rcases news_fin hl2 (by k_asm) with N9
    (all_goals (repeat ((with_reducible refine OQ.use (by assumption) ?_); (try dsimp only))))
    exact end_c (by k_asm) N9 TT ⟨_ :: _ :: new, z, _, _, rfl, rfl, ⟨dx, ft, vts, n9, _, _, tpb, t1, t2, t3, t4, t5, .head _, .tail _ (.head _), .tail _ (.tail _ g2), g3.mono (fun p hp => .tail _ (.tail _ hp))⟩, ⟨_, congrArg (Value.int · _) hKv⟩, (fun e => nomatch e), fun _ => hq⟩
  | true =>
    have hKv := hKt rfl
    (all_goals (repeat ((with_reducible refine OQ.use (by assumption) ?_); (try dsimp only))))
    w_strict (k_steps)
    (all_goals (repeat ((with_reducible refine OQ.use (by assumption) ?_); (try dsimp only))))
    refine Stop.mk ?_
    refine opk (fun K9 hK9 => ?_)
    k_dflt (refine' con_step (get48i XB TB _ fl _ 0 x _ _ hh (by decide) hx (by first | decide | omega) hx0 hx1) (by assumption) (by k_asm) (by k_asm) (by assumption) rfl rfl rfl ?hd92 ?hu92 ?hesc92 ?hret92)
    case hd92 => (dsimp only; first | exact dstep1 hdp rfl | exact dstep hdp rfl | omega)
    case hu92 => (dsimp only; first | exact dstep hun rfl | exact dstep1 hun rfl | omega)
    case hesc92 => exact fun _ _ _ _ q _ => q.elim
    intro r9 h' tk' news' F' N' P9
    (try k_sweep)
    (try dsimp only)
    obtain ⟨rfl, tkx, rfl⟩ := P9
    (all_goals (repeat ((with_reducible refine OQ.use (by assumption) ?_); (try dsimp only))))
    w_strict (k_steps)
    (all_goals (repeat ((with_reducible refine OQ.use (by assumption) ?_); (try dsimp only))))
    refine Stop.mk ?_
    refine opk (fun K9 hK9 => ?_)
    k_dflt (refine' con_step (get48i XB TB _ fl _ 6 y _ _ hh (by decide) hy (by first | decide | omega) hy0 hy1) (by assumption) (by k_asm) (by k_asm) (by assumption) rfl rfl rfl ?hd93 ?hu93 ?hesc93 ?hret93)
    case hd93 => (dsimp only; first | exact dstep1 hdp rfl | exact dstep hdp rfl | omega)
    case hu93 => (dsimp only; first | exact dstep hun rfl | exact dstep1 hun rfl | omega)
    case hesc93 => exact fun _ _ _ _ q _ => q.elim
    intro r9 h' tk' news' F' N' P9
    (try k_sweep)
    (try dsimp only)
    obtain ⟨rfl, tky, rfl⟩ := P9
    (all_goals (repeat ((with_reducible refine OQ.use (by assumption) ?_); (try dsimp only))))
    w_strict (k_steps)
    (all_goals (repeat ((with_reducible refine OQ.use (by assumption) ?_); (try dsimp only))))
    refine Stop.mk ?_
    refine opk (fun K9 hK9 => ?_)
    k_dflt (refine' con_step (frame_con XB TB _ _ _ ft _ _ _ _) (by assumption) (by k_asm) (news_dup1 (by k_asm) (by k_mem)) (by assumption) rfl rfl rfl ?hd94 ?hu94 ?hesc94 ?hret94)
    case hd94 => (dsimp only; first | exact dstep1 hdp rfl | exact dstep hdp rfl | omega)
    case hu94 => (dsimp only; first | exact dstep hun rfl | exact dstep1 hun rfl | omega)
    case hesc94 => exact fun _ _ _ _ q _ => q.elim
    intro r9 h' tk' news' F' N' P9
    (try k_sweep)
    (try dsimp only)
    obtain ⟨z, dx, t1, t2, t3, t4, t5, tpb, rfl, rfl, f1, f2, f3⟩ := P9
    k_steps
    rename KBw.bInts (KBy.picked (KBy.picked (KBy.picked _ _ _) _ _) _ _) = _ => hq
    replace hq := hq.trans (cut_k hKv.1 hKv.2.2)
    rcases news_fin hl2 (by k_asm) with N9
    (all_goals (repeat ((with_reducible refine OQ.use (by assumption) ?_); (try dsimp only))))
    exact end_c (by k_asm) N9 TT ⟨_ :: _ :: new, z, _, _, rfl, rfl, ⟨dx, ft, vts, n9, _, _, tpb, t1, t2, t3, t4, t5, .head _, .tail _ (.head _), .tail _ (.tail _ g2), g3.mono (fun p hp => .tail _ (.tail _ hp))⟩, rfl, (fun _ => hq), fun e => nomatch e⟩
def payB (ln : Bool) (n : Nat) (ks : List Int) : List Int := match ln with
  | true => ks
  | false => ks ++ List.replicate (60 - (14 + 4 * n + ks.length)) 0
theorem kindB_two (ln : Bool) (n : Nat) (h : ln = true → n ≤ 1500) : ∃ c0 c1 : Int, kindB ln n = [c0, c1] ∧ c0 * 256 + c1 ≠ 33024 ∧ c0 * 256 + c1 ≠ 34984 ∧ (ln = true → c0 * 256 + c1 = n) ∧ (ln = false → c0 * 256 + c1 = 2048) := by
  cases ln with
  | true =>
    have := h rfl
    exact ⟨(n : Int) / 256 % 256, (n : Int) % 256, rfl, by omega, by omega, (fun _ => by omega), fun e => nomatch e⟩
  | false => exact ⟨8, 0, rfl, by decide, by decide, (fun e => nomatch e), fun _ => by decide⟩
abbrev flB (x y c0 c1 : Int) (ps : List (Int × Int)) (ks : List Int) : List Int := fillB (bodyB x y (tagsB ps) [c0, c1] ks)
theorem fl_at (x y c0 c1 : Int) (ks : List Int) : ∀ ps : List (Int × Int), ps.length ≤ 2 → ((flB x y c0 c1 ps ks).drop (12 + 4 * ps.length)).take 2 = [c0, c1] ∧ (flB x y c0 c1 ps ks).drop (14 + 4 * ps.length) = ks ++ List.replicate (60 - (bodyB x y (tagsB ps) [c0, c1] ks).length) 0
  | [], _ => ⟨rfl, rfl⟩
  | [(_, _)], _ => ⟨rfl, rfl⟩
  | [(_, _), (_, _)], _ => ⟨rfl, rfl⟩
  | _ :: _ :: _ :: _, h => by simp only [List.length_cons] at h; omega
theorem two8 (p v : Int) (h : 0 ≤ p ∧ p ≤ 7 ∧ 0 ≤ v ∧ v < 4095) : (p * 8192 + 0 + v) / 256 % 256 * 256 + (p * 8192 + 0 + v) % 256 = p * 8192 + v := by
  obtain ⟨h1, h2, h3, h4⟩ := h
  omega
theorem unpacktags_in (XB : (Lw.head.heap_1 w.params).In base) (TB : Top p loose mean mg mb base) (x y c0 c1 : Int) (ks : List Int) (hl : (ks.length : Int) ≤ 2000) (hc1 : c0 * 256 + c1 ≠ 33024) (hc2 : c0 * 256 + c1 ≠ 34984) (ps : List (Int × Int)) (hT : TagsOk ps) (hn : ps.length ≤ 2) (hL : (flB x y c0 c1 ps ks).length ≤ 100000) (b : Array UInt8) (tb t : Tok) (news : List (Addr × Obj)) (hk : KBw.bInts b = flB x y c0 c1 ps ks) :
    Con w base 70 900 302 [.bytes b tb, .int 12 t] news (PUT w ps ps.length news) (fun _ => False) := by
  match ps, hT, hn, hL, hk with
  | [], hT, hn, hL, hk =>
    refine con_mono (unpacktags0 XB TB b _ c0 c1 tb t hk hL rfl hc1 hc2) (fun r n q => ?_) fun _ q => q
    obtain ⟨r9, ft, u0, rfl, hq⟩ := q
    exact ⟨[_, _], r9, ft, u0, 12, [], 0, rfl, hq, .head _, .tail _ (.head _), .nil, by decide⟩
  | [(p1, v1)], hT, hn, hL, hk =>
    have o1 := hT _ (.head _)
    refine con_mono (unpacktags1 XB TB b _ c0 c1 p1 v1 _ _ tb t hk hL o1.1 o1.2.1 o1.2.2.1 o1.2.2.2 rfl rfl (two8 p1 v1 o1) rfl hc1 hc2) (fun r n q => ?_) fun _ q => q
    obtain ⟨r9, ft, u0, x1, dx1, ua1, ub1, uc1, ud1, ue1, uf1, ug1, rfl, hq⟩ := q
    exact ⟨[_, _, _, _], r9, ft, u0, 16, [.ref x1], 0, rfl, hq, .head _, .tail _ (.head _), .cons (.tail _ (.tail _ (.head _))) (.tail _ (.tail _ (.tail _ (.head _)))) .nil, by simp only [List.length_cons, List.length_nil]; decide⟩
  | [(p1, v1), (p2, v2)], hT, hn, hL, hk =>
    have o1 := hT _ (.head _)
    have o2 := hT _ (.tail _ (.head _))
    refine con_mono (unpacktags2 XB TB b _ c0 c1 p1 v1 _ _ p2 v2 _ _ tb t hk hL o1.1 o1.2.1 o1.2.2.1 o1.2.2.2 rfl rfl (two8 p1 v1 o1) o2.1 o2.2.1 o2.2.2.1 o2.2.2.2 rfl rfl (two8 p2 v2 o2) rfl hc1 hc2) (fun r n q => ?_) fun _ q => q
    obtain ⟨r9, ft, u0, x1, dx1, ua1, ub1, uc1, ud1, ue1, uf1, ug1, x2, dx2, ua2, ub2, uc2, ud2, ue2, uf2, ug2, rfl, hq⟩ := q
    exact ⟨[_, _, _, _, _, _], r9, ft, u0, 20, [.ref x1, .ref x2], 0, rfl, hq, .head _, .tail _ (.head _), .cons (.tail _ (.tail _ (.head _))) (.tail _ (.tail _ (.tail _ (.head _)))) (.cons (.tail _ (.tail _ (.tail _ (.tail _ (.head _))))) (.tail _ (.tail _ (.tail _ (.tail _ (.tail _ (.head _)))))) .nil), by simp only [List.length_cons, List.length_nil]; decide⟩
  | _ :: _ :: _ :: _, hT, hn, hL, hk => simp only [List.length_cons] at hn; omega
inductive Punpack_in (w : World) (l : List (Addr × Obj)) (x : Int) (y : Int) (ps : List (Int × Int)) (ln : Bool) (ks : List Int) (r : Value) (news' : List (Addr × Obj)) : Prop
  | mk (new) (f1 : news' = new ++ l) (z kd pb) (f2 : r = .ref z) (f3 : FrameIn w new z x y ps kd pb) (f4 : KindV kd ln) (f5 : KBw.bInts pb = payB ln ps.length ks)
theorem unpack_in (XB : (Lw.head.heap_1 w.params).In base) (TB : Top p loose mean mg mb base) {l : List (Addr × Obj)} (x y : Int) (ps : List (Int × Int)) (ln : Bool) (ks : List Int) (b : Array UInt8) (m : Int) (tb tm : Tok) (vs : List Value) (HB : UBinds w vs b tb m tm) (hb : KBw.bInts b = packB x y (tagsB ps) (kindB ln ks.length) ks) (hT : TagsOk ps)
    (hx0 : 0 ≤ x) (hx1 : x < 281474976710656) (hy0 : 0 ≤ y) (hy1 : y < 281474976710656) (hl : ks.length ≤ 2000) (hln : ln = true → ks.length ≤ 1500) (hn : ps.length ≤ 2) (hm : max 60 (14 + 4 * (ps.length : Int) + (ks.length : Int)) + 4 ≤ m) :
    Con w base 100 1500 310 vs l (Punpack_in w l x y ps ln ks) (fun _ => False) := by
  obtain ⟨c0, c1, hkb, hc1, hc2, hvt, hvf⟩ := kindB_two ln ks.length hln
  rw [hkb] at hb
  have hL : (bodyB x y (tagsB ps) [c0, c1] ks).length = 14 + 4 * ps.length + ks.length := by rw [← hkb]; exact bodyB_len x y ps ln ks.length ks
  have hF : (flB x y c0 c1 ps ks).length = max 60 (bodyB x y (tagsB ps) [c0, c1] ks).length := fillB_len _
  have hA := fl_at x y c0 c1 ks ps hn
  refine con_mono (unpackframe_g XB TB b (flB x y c0 c1 ps ks) _ x y c0 c1 (c0 * 256 + c1) m ps ln ps.length tb tm vs HB hb (by first | decide | omega) (by first | decide | omega) (by first | decide | omega) hx0 hx1 hy0 hy1 rfl rfl hn hA.1 rfl (fun e => ?_) hvf hA.2 (fun b' tb' t' news hk => unpacktags_in XB TB x y c0 c1 ks (by first | decide | omega) hc1 hc2 ps hT hn (by first | decide | omega) b' tb' t' news hk)) (fun r n q => ?_) fun _ q => q
  · have h1 := hvt e
    have h2 := hln e
    rw [List.length_append]
    omega
  · obtain ⟨new, z, kd, pb, rfl, hq, Fi, hk, ht, hf⟩ := q
    refine ⟨new, hq, z, kd, pb, rfl, Fi, hk, ?_⟩
    cases ln with
    | true => exact (ht rfl).trans (by rw [hvt rfl, Int.toNat_natCast]; exact List.take_left' rfl)
    | false => exact (hf rfl).trans (congrArg (fun z => ks ++ List.replicate (60 - z) 0) hL)
theorem unpack_inL (XB : (Lw.head.heap_1 w.params).In base) (TB : Top p loose mean mg mb base) {l : List (Addr × Obj)} (x y : Int) (ps : List (Int × Int)) (ln : Bool) (ks : List Int) (b : Array UInt8) (m : Int) (tb tm : Tok) (vs : List Value) (HB : UBinds w vs b tb m tm) (hb : KBw.bInts b = packB x y (tagsB ps) (kindB ln ks.length) ks)
    (hl : ks.length ≤ 2000) (hn : ps.length ≤ 2) (hm : m < max 60 (14 + 4 * (ps.length : Int) + (ks.length : Int)) + 4) :
    Con w base 100 1500 310 vs l (fun r news' => False) (fun c => c = .ref 151) := by
  have hL := packB_len x y ps ln ks.length ks
  exact unpackframeL XB TB b _ m tb tm vs HB hb (by first | decide | omega) (by first | decide | omega) (by first | decide | omega)
end
section
variable {w : World} {p : Program} {loose : List Str} {mean : ExcName → Option Value} {mg mb : Str → Option Value} {base : Heap} {news : List (Addr × Obj)}
inductive Src (so : Obj) : Prop
  | mk (X Y tX tY n) (f1 : so = listOf #[.int X tX, .int Y tY] n) (f2 : 0 ≤ Y) (f3 : Y < 2147483647)
inductive Pull (q : Addr × Obj) : List (Addr × Obj) → List (Addr × Obj) → Prop
  | head (r) : Pull q (q :: r) r
  | tail (z) {l r} : Pull q l r → Pull q (z :: l) (z :: r)
theorem Pull.sub {q : Addr × Obj} : ∀ {l r : List (Addr × Obj)}, Pull q l r → ∀ p ∈ q :: r, p ∈ l
  | _, _, .head _ => fun _ h => h
  | _, _, .tail z P => fun p h => by
    rcases List.mem_cons.mp h with rfl | h
    · exact List.mem_cons_of_mem _ (P.sub _ (.head _))
    · rcases List.mem_cons.mp h with rfl | h
      · exact .head _
      · exact List.mem_cons_of_mem _ (P.sub _ (List.mem_cons_of_mem _ h))
theorem news_pull {g h : Heap} {L : Addr} {l r : List (Addr × Obj)} {q : Addr × Obj} (N : News g L h l) (P : Pull q l r) : News g L h (q :: r) := news_sub N P.sub
theorem mod_walk {prog : Program} {A : Around} {E : Value → Shared → Prop} {sh : Heap} {sg : Array GenState} {sd : Drawn} {sk : Nat} {so : OsState} {a b : Int} {t u : Tok} {Q : Value → Shared → Prop} (hb : 0 < b) (h : 0 ≤ a % b → a % b < b → Q (.int (a % b) sk) ⟨sh, sg, sd, sk + 1, so⟩) : wpAny (model prog w) A (binaryOp .Mod (.int a t) (.int b u)) Q E ⟨sh, sg, sd, sk, so⟩ := by
  refine mod_int (by first | decide | omega) ?_
  rw [Int.fmod_eq_emod_of_nonneg _ (Int.le_of_lt hb)]
  exact h (Int.emod_nonneg _ (by first | decide | omega)) (Int.emod_lt_of_pos _ hb)
theorem div_walk {prog : Program} {A : Around} {E : Value → Shared → Prop} {sh : Heap} {sg : Array GenState} {sd : Drawn} {sk : Nat} {so : OsState} {a b : Int} {t u : Tok} {Q : Value → Shared → Prop} (hb : 0 < b) (hb2 : b ≤ 281474976710656) (h : Q (.int (a / b) sk) ⟨sh, sg, sd, sk + 1, so⟩) : wpAny (model prog w) A (binaryOp .FloorDiv (.int a t) (.int b u)) Q E ⟨sh, sg, sd, sk, so⟩ := by
  refine floordiv_int (by first | decide | omega) ?_ (Or.inl (PyProof.noPylong_of_log2 ?_))
  · rw [Int.fdiv_eq_ediv_of_nonneg _ (Int.le_of_lt hb)]
    exact h
  · have e : (2 : Nat) ^ 64 = 18446744073709551616 := by decide
    have : b.natAbs.log2 < 64 := (Nat.log2_lt (by first | decide | omega)).mpr (by first | decide | omega)
    omega
theorem mul_walk {prog : Program} {A : Around} {E : Value → Shared → Prop} {sh : Heap} {sg : Array GenState} {sd : Drawn} {sk : Nat} {so : OsState} {a b : Int} {t u : Tok} {Q : Value → Shared → Prop} (h0 : 0 ≤ a) (h1 : a < 9223372036854775808) (h : Q (.int (a * b) sk) ⟨sh, sg, sd, sk + 1, so⟩) : wpAny (model prog w) A (binaryOp .Mult (.int a t) (.int b u)) Q E ⟨sh, sg, sd, sk, so⟩ :=
  mul_int h (.of_left (intBits_le_64 (by first | decide | omega) (Int.lt_trans h1 (by decide))))
local macro_rules | `(tactic| walk_at "binaryOp Mod int int") => `(tactic| (k_here; (first | with_reducible refine mod_walk (by omega) ?_ | k_dflt (refine mod_walk (by omega) ?_)); intro _ _))
local macro_rules | `(tactic| walk_at "binaryOp FloorDiv int int") => `(tactic| (k_here; (first | with_reducible refine div_walk (by omega) (by omega) ?_ | k_dflt (refine div_walk (by omega) (by omega) ?_))))
local macro_rules | `(tactic| walk_at "binaryOp Mult int int") => `(tactic| (k_here; (first | with_reducible refine mul_walk (by omega) (by omega) ?_ | k_dflt (refine mul_walk (by omega) (by omega) ?_))))
inductive Ptake_con (news : List (Addr × Obj)) (sa : Addr) (top : Int) (r : Value) (news' : List (Addr × Obj)) : Prop
  | mk (d td so') (f1 : r = .int d td) (f2 : 0 ≤ d) (f3 : d < top) (f4 : Src so') (f5 : news' = (sa, so') :: news)
theorem take_con (XB : (Lw.head.heap_1 w.params).In base) (TB : Top p loose mean mg mb base) (sa : Addr) (so : Obj) (top : Int) (tt : Tok) (hs : Src so) (h0 : 0 < top) (h1 : top ≤ 281474976710656) (off : ∀ p ∈ news, p.1 ≠ sa) :
    Con w base 20 100 324 [.ref sa, .int top tt] ((sa, so) :: news) (Ptake_con news sa top) (fun _ => False) := by
  obtain ⟨X, Y, tX, tY, n, rfl, hY0, hY1⟩ := hs
  w_on
  k_dflt (refine' con_defQ (binds := [(Str.ofString "source", .ref sa), (Str.ofString "top", .int top tt)]) XB TB ?ho ?hcd ?hb ?hl ?hn ?_ ?c1 ?c2 ?c3 ?c4)
  case ho => k_is
  case hcd => k_is
  case hb => intro _ _; first | exact BindsTo.of_eq rfl | exact binds_K (by assumption) rfl (by k_is) rfl rfl rfl
  case hl => exact locs rfl
  case hn => first | decide | omega
  case c1 => decide
  case c2 => rfl
  case c3 => rfl
  case c4 => rfl
  intro dp un gd l sh9 sg9 sd9 sk9 so9 g L' h' Q1 E1 hdp hun AN F' N' l1 B' D' X' T' TT hQ1 hE1
  (try dsimp only)
  (try k_fold)
  (all_goals (repeat ((with_reducible refine OQ.use (by assumption) ?_); (try dsimp only))))
  w_strict (k_steps)
  (all_goals (repeat ((with_reducible refine OQ.use (by assumption) ?_); (try dsimp only))))
  · (try dsimp only)
    (all_goals (repeat ((with_reducible refine OQ.use (by assumption) ?_); (try dsimp only))))
    exact end_c (by k_asm) (by k_asm) TT ⟨_, _, _, rfl, by assumption, by assumption, ⟨_, _, _, _, _, rfl, hY0, hY1⟩, rfl⟩
  · have m0 : 0 ≤ (Y * 39373 + 7) % 2147483647 := by omega
    have m1 : (Y * 39373 + 7) % 2147483647 < 2147483647 := by omega
    (all_goals (repeat ((with_reducible refine OQ.use (by assumption) ?_); (try dsimp only))))
    k_dflt (refine mul_walk m0 (Int.lt_trans m1 (by decide)) ?_)
    (all_goals (repeat ((with_reducible refine OQ.use (by assumption) ?_); (try dsimp only))))
    w_strict (k_steps)
    (all_goals (repeat ((with_reducible refine OQ.use (by assumption) ?_); (try dsimp only))))
    (try dsimp only)
    (all_goals (repeat ((with_reducible refine OQ.use (by assumption) ?_); (try dsimp only))))
    exact end_c (by k_asm) (by k_asm) TT ⟨_, _, _, rfl, by assumption, by assumption, ⟨_, _, _, _, _, rfl, m0, m1⟩, rfl⟩
inductive Pone_con (news : List (Addr × Obj)) (sa : Addr) (la : Addr) (vs : List Value) (m : Nat) (r : Value) (news' : List (Addr × Obj)) : Prop
  | mk (so') (f1 : r ∈ vs) (f2 : Src so') (f3 : news' = (sa, so') :: (la, listOf vs.toArray m) :: news)
theorem one_con (XB : (Lw.head.heap_1 w.params).In base) (TB : Top p loose mean mg mb base) (sa la : Addr) (so : Obj) (vs : List Value) (m : Nat) (hs : Src so) (h0 : 0 < vs.length) (h1 : vs.length ≤ 100) (off : ∀ p ∈ news, p.1 ≠ sa) (ol : la ≠ sa) :
    Con w base 40 400 331 [.ref sa, .ref la] ((sa, so) :: (la, listOf vs.toArray m) :: news) (Pone_con news sa la vs m) (fun _ => False) := by
  w_on
  k_dflt (refine' con_defQ (binds := [(Str.ofString "source", .ref sa), (Str.ofString "things", .ref la)]) XB TB ?ho ?hcd ?hb ?hl ?hn ?_ ?c1 ?c2 ?c3 ?c4)
  case ho => k_is
  case hcd => k_is
  case hb => intro _ _; first | exact BindsTo.of_eq rfl | exact binds_K (by assumption) rfl (by k_is) rfl rfl rfl
  case hl => exact locs rfl
  case hn => first | decide | omega
  case c1 => decide
  case c2 => rfl
  case c3 => rfl
  case c4 => rfl
  intro dp un gd l sh9 sg9 sd9 sk9 so9 g L' h' Q1 E1 hdp hun AN F' N' l1 B' D' X' T' TT hQ1 hE1
  (try dsimp only)
  (try k_fold)
  (all_goals (repeat ((with_reducible refine OQ.use (by assumption) ?_); (try dsimp only))))
  w_strict (k_steps)
  (all_goals (repeat ((with_reducible refine OQ.use (by assumption) ?_); (try dsimp only))))
  (all_goals (repeat ((with_reducible refine OQ.use (by assumption) ?_); (try dsimp only))))
  k_dflt (refine len_list (News.isList (by k_asm) (by k_mem)) (by rw [List.size_toArray]; omega) ?_)
  rw [List.size_toArray]
  (all_goals (repeat ((with_reducible refine OQ.use (by assumption) ?_); (try dsimp only))))
  w_strict (k_steps)
  (all_goals (repeat ((with_reducible refine OQ.use (by assumption) ?_); (try dsimp only))))
  refine Stop.mk ?_
  refine opk (fun K9 hK9 => ?_)
  k_dflt (refine' con_step (take_con XB TB sa so _ _ hs (by first | decide | omega) (by first | decide | omega) (List.forall_mem_cons.mpr ⟨ol, off⟩)) (by assumption) (by k_asm) (by k_asm) (by assumption) rfl rfl rfl ?hd97 ?hu97 ?hesc97 ?hret97)
  case hd97 => (dsimp only; first | exact dstep1 hdp rfl | exact dstep hdp rfl | omega)
  case hu97 => (dsimp only; first | exact dstep hun rfl | exact dstep1 hun rfl | omega)
  case hesc97 => exact fun _ _ _ _ q _ => q.elim
  intro r9 h' tk' news' F' N' P9
  (try k_sweep)
  (try dsimp only)
  obtain ⟨d, td, so', rfl, hd0, hd1, hs', rfl⟩ := P9
  obtain ⟨v, hv⟩ : ∃ v, vs[d.toNat]? = some v := ⟨_, List.getElem?_eq_getElem (by first | decide | omega)⟩
  (all_goals (repeat ((with_reducible refine OQ.use (by assumption) ?_); (try dsimp only))))
  k_dflt (refine item_list (News.isList (by k_asm) (by k_mem)) hd0 (by first | decide | omega) (x := v) (by simpa using hv) ?_)
  (try dsimp only)
  (all_goals (repeat ((with_reducible refine OQ.use (by assumption) ?_); (try dsimp only))))
  exact end_c (by k_asm) (by k_asm) TT ⟨so', List.mem_of_getElem? hv, hs', rfl⟩
theorem one_dec (P : Int → Prop) [DecidablePred P] {r : Value} {l : List Value} (h : l.all (fun v => match v with | .int k _ => decide (P k) | _ => false) = true) (hm : r ∈ l) : ∃ k tk, r = .int k tk ∧ P k := by
  have := List.all_eq_true.mp h r hm
  cases r with
  | int k tk => exact ⟨k, tk, rfl, of_decide_eq_true this⟩
  | _ => exact absurd this (by simp)
local macro_rules | `(tactic| walk_at "binaryOp Pow int int") => `(tactic| (k_here; (first | with_reducible refine pow_int_small (by decide) (by decide) (by decide) ?_ | k_dflt (refine pow_int_small (by decide) (by decide) (by decide) ?_))))
theorem pool_con0 (XB : (Lw.head.heap_1 w.params).In base) (TB : Top p loose mean mg mb base) (la : Addr) (vs : List Value) (ns : List Int) (tk : Tok) (hl : base.IsList la vs.toArray) (hi : IntsAre vs ns) (hn : ns.length ≤ 100) :
    Con w base 40 400 317 [.ref la, .int 0 tk] news (fun r news' => ∃ sa so, r = .ref sa ∧ Src so ∧ news' = (sa, so) :: news ∧ ∀ p ∈ news, p.1 < sa) (fun _ => False) := by
  w_on
  k_dflt (refine' con_defQ (binds := [(Str.ofString "script", .ref la), (Str.ofString "k", .int 0 tk)]) XB TB ?ho ?hcd ?hb ?hl ?hn ?_ ?c1 ?c2 ?c3 ?c4)
  case ho => k_is
  case hcd => k_is
  case hb => intro _ _; first | exact BindsTo.of_eq rfl | exact binds_K (by assumption) rfl (by k_is) rfl rfl rfl
  case hl => exact locs rfl
  case hn => first | decide | omega
  case c1 => decide
  case c2 => rfl
  case c3 => rfl
  case c4 => rfl
  intro dp un gd l sh9 sg9 sd9 sk9 so9 g L' h' Q1 E1 hdp hun AN F' N' l1 B' D' X' T' TT hQ1 hE1
  (try dsimp only)
  (try k_fold)
  have hl2 : g.IsList la vs.toArray := stays_list B'.stays hl
  (all_goals (repeat ((with_reducible refine OQ.use (by assumption) ?_); (try dsimp only))))
  w_strict (k_steps)
  (all_goals (repeat ((with_reducible refine OQ.use (by assumption) ?_); (try dsimp only))))
  all_goals (try dsimp only)
  (all_goals (repeat ((with_reducible refine OQ.use (by assumption) ?_); (try dsimp only))))
  all_goals exact end_c (by k_asm) (by k_asm) TT ⟨_, _, rfl, ⟨_, _, _, _, _, rfl, by assumption, by assumption⟩, rfl, by assumption⟩
theorem pool_con1 (XB : (Lw.head.heap_1 w.params).In base) (TB : Top p loose mean mg mb base) (la : Addr) (vs : List Value) (ns : List Int) (tk : Tok) (hl : base.IsList la vs.toArray) (hi : IntsAre vs ns) (hn : ns.length ≤ 100) :
    Con w base 40 400 317 [.ref la, .int 1 tk] news (fun r news' => ∃ sa so, r = .ref sa ∧ Src so ∧ news' = (sa, so) :: news ∧ ∀ p ∈ news, p.1 < sa) (fun _ => False) := by
  w_on
  k_dflt (refine' con_defQ (binds := [(Str.ofString "script", .ref la), (Str.ofString "k", .int 1 tk)]) XB TB ?ho ?hcd ?hb ?hl ?hn ?_ ?c1 ?c2 ?c3 ?c4)
  case ho => k_is
  case hcd => k_is
  case hb => intro _ _; first | exact BindsTo.of_eq rfl | exact binds_K (by assumption) rfl (by k_is) rfl rfl rfl
  case hl => exact locs rfl
  case hn => first | decide | omega
  case c1 => decide
  case c2 => rfl
  case c3 => rfl
  case c4 => rfl
  intro dp un gd l sh9 sg9 sd9 sk9 so9 g L' h' Q1 E1 hdp hun AN F' N' l1 B' D' X' T' TT hQ1 hE1
  (try dsimp only)
  (try k_fold)
  have hl2 : g.IsList la vs.toArray := stays_list B'.stays hl
  (all_goals (repeat ((with_reducible refine OQ.use (by assumption) ?_); (try dsimp only))))
  w_strict (k_steps)
  (all_goals (repeat ((with_reducible refine OQ.use (by assumption) ?_); (try dsimp only))))
  all_goals (try dsimp only)
  (all_goals (repeat ((with_reducible refine OQ.use (by assumption) ?_); (try dsimp only))))
  all_goals exact end_c (by k_asm) (by k_asm) TT ⟨_, _, rfl, ⟨_, _, _, _, _, rfl, by assumption, by assumption⟩, rfl, by assumption⟩
theorem news_pullB {g h : Heap} {L : Addr} {l r r2 : List (Addr × Obj)} {q q2 : Addr × Obj} (N : News g L h l) (P : Pull q l r) (P2 : Pull q2 r r2) : News g L h (q2 :: q :: r2) := news_sub N fun p hp => by
  rcases List.mem_cons.mp hp with rfl | hp
  · exact P.sub _ (.tail _ (P2.sub _ (.head _)))
  · rcases List.mem_cons.mp hp with rfl | hp
    · exact P.sub _ (.head _)
    · exact P.sub _ (.tail _ (P2.sub _ (.tail _ hp)))
section
variable {gk : Heap} {A A₀ : Around} {l : List Env} {L' : Addr} {m' : Str → Option Value} {Q E : Value → Shared → Prop} {dp un : Nat} {gd : Option (List Code)} {cn : Str} {cs : Scope} {a : Addr} {ccd : Value} {cl : List (Str × Addr)} {prog : Program} {sh : Heap} {sg : Array GenState} {sd : Drawn} {sk : Nat} {so9 : OsState} {lg : List (Addr × Obj)}
theorem take_k (XB : (Lw.head.heap_1 w.params).In base) (TB : Top p loose mean mg mb base) {sa : Addr} {so : Obj} {top : Int} {tt : Tok}
    (B : Below A₀ base l gk) (F : Fr gk L' sh m') (N : News gk L' sh lg) (P : Pull (sa, so) lg news) (D : KtsDicts (frs l) gk)
    (hp : prog = PySem.Challenge.pw_pf0385_01) (hA : A = At dp un gd (envX cn cs L' a ccd cl :: l)) (hk : cs.kind = .function) (hd : dp + 20 < recursionLimit) (hu : un + 100 < cLine)
    (hs : Src so) (h0 : 0 < top) (h1 : top ≤ 281474976710656) (off : ∀ p ∈ news, p.1 ≠ sa)
    (hret : ∀ d td so' h' tk', 0 ≤ d → d < top → Src so' → Fr gk L' h' m' → News gk L' h' ((sa, so') :: news) → Q (.int d td) ⟨h', sg, sd, tk', so9⟩) :
    wpAny (model prog w) A (call (.ref 324) [.ref sa, .int top tt]) Q E ⟨sh, sg, sd, sk, so9⟩ :=
  con_step (take_con XB TB sa so top tt hs h0 h1 off) B F (news_pull N P) D hp hA hk hd hu (fun _ _ _ _ q _ => q.elim) fun r h' tk' news' F' N' P9 => by
    obtain ⟨d, td, so', rfl, x0, x1, hs', rfl⟩ := P9
    exact hret d td so' h' tk' x0 x1 hs' F' N'
theorem one_m (XB : (Lw.head.heap_1 w.params).In base) (TB : Top p loose mean mg mb base) {sa la : Addr} {so : Obj} {vs : List Value} {m : Nat}
    (B : Below A₀ base l gk) (F : Fr gk L' sh m') (N : News gk L' sh lg) {l1 : List (Addr × Obj)} (P : Pull (la, listOf vs.toArray m) lg l1) (P' : Pull (sa, so) l1 news) (D : KtsDicts (frs l) gk)
    (hp : prog = PySem.Challenge.pw_pf0385_01) (hA : A = At dp un gd (envX cn cs L' a ccd cl :: l)) (hk : cs.kind = .function) (hd : dp + 40 < recursionLimit) (hu : un + 400 < cLine)
    (hs : Src so) (h0 : Nat.ble 1 vs.length = true) (h1 : Nat.ble vs.length 100 = true) (off : ∀ p ∈ news, p.1 ≠ sa) (ol : la ≠ sa)
    (hret : ∀ r so' h' tk', r ∈ vs → Src so' → Fr gk L' h' m' → News gk L' h' ((sa, so') :: news) → Q r ⟨h', sg, sd, tk', so9⟩) :
    wpAny (model prog w) A (call (.ref 331) [.ref sa, .ref la]) Q E ⟨sh, sg, sd, sk, so9⟩ :=
  con_step (one_con XB TB sa la so vs m hs (Nat.le_of_ble_eq_true h0) (Nat.le_of_ble_eq_true h1) off ol) B F (news_pullB N P P') D hp hA hk hd hu (fun _ _ _ _ q _ => q.elim) fun r h' tk' news' F' N' P9 => by
    obtain ⟨so', hr, hs', rfl⟩ := P9
    refine hret r so' h' tk' hr hs' F' (news_sub N' fun q hq => ?_)
    rcases List.mem_cons.mp hq with rfl | hq
    · exact .head _
    · exact .tail _ (.tail _ hq)
theorem one_p (P : Int → Prop) [DecidablePred P] (XB : (Lw.head.heap_1 w.params).In base) (TB : Top p loose mean mg mb base) {sa la : Addr} {so : Obj} {vs : List Value} {m : Nat}
    (hv : vs.all (fun v => match v with | .int k _ => decide (P k) | _ => false) = true)
    (B : Below A₀ base l gk) (F : Fr gk L' sh m') (N : News gk L' sh lg) {l1 : List (Addr × Obj)} (PU : Pull (la, listOf vs.toArray m) lg l1) (P' : Pull (sa, so) l1 news) (D : KtsDicts (frs l) gk)
    (hp : prog = PySem.Challenge.pw_pf0385_01) (hA : A = At dp un gd (envX cn cs L' a ccd cl :: l)) (hk : cs.kind = .function) (hd : dp + 40 < recursionLimit) (hu : un + 400 < cLine)
    (hs : Src so) (h0 : Nat.ble 1 vs.length = true) (h1 : Nat.ble vs.length 100 = true) (off : ∀ p ∈ news, p.1 ≠ sa) (ol : la ≠ sa)
    (hret : ∀ k tk so' h' tk', P k → Src so' → Fr gk L' h' m' → News gk L' h' ((sa, so') :: news) → Q (.int k tk) ⟨h', sg, sd, tk', so9⟩) :
    wpAny (model prog w) A (call (.ref 331) [.ref sa, .ref la]) Q E ⟨sh, sg, sd, sk, so9⟩ :=
  one_m XB TB B F N PU P' D hp hA hk hd hu hs h0 h1 off ol fun r so' h' tk' hr hs' F' N' => by
    obtain ⟨k, tk, rfl, hk⟩ := one_dec P hv hr
    exact hret k tk so' h' tk' hk hs' F' N'
theorem one_r (lo hi : Int) (XB : (Lw.head.heap_1 w.params).In base) (TB : Top p loose mean mg mb base) {sa la : Addr} {so : Obj} {vs : List Value} {m : Nat}
    (hv : vs.all (fun v => match v with | .int k _ => decide (lo ≤ k ∧ k ≤ hi) | _ => false) = true)
    (B : Below A₀ base l gk) (F : Fr gk L' sh m') (N : News gk L' sh lg) {l1 : List (Addr × Obj)} (PU : Pull (la, listOf vs.toArray m) lg l1) (P' : Pull (sa, so) l1 news) (D : KtsDicts (frs l) gk)
    (hp : prog = PySem.Challenge.pw_pf0385_01) (hA : A = At dp un gd (envX cn cs L' a ccd cl :: l)) (hk : cs.kind = .function) (hd : dp + 40 < recursionLimit) (hu : un + 400 < cLine)
    (hs : Src so) (h0 : Nat.ble 1 vs.length = true) (h1 : Nat.ble vs.length 100 = true) (off : ∀ p ∈ news, p.1 ≠ sa) (ol : la ≠ sa)
    (hret : ∀ k tk so' h' tk', lo ≤ k → k ≤ hi → Src so' → Fr gk L' h' m' → News gk L' h' ((sa, so') :: news) → Q (.int k tk) ⟨h', sg, sd, tk', so9⟩) :
    wpAny (model prog w) A (call (.ref 331) [.ref sa, .ref la]) Q E ⟨sh, sg, sd, sk, so9⟩ :=
  one_p (fun k => lo ≤ k ∧ k ≤ hi) XB TB hv B F N PU P' D hp hA hk hd hu hs h0 h1 off ol fun k tk so' h' tk' hk => hret k tk so' h' tk' hk.1 hk.2
end
end
local macro_rules | `(tactic| walk_at "binaryOp Mod int int") => `(tactic| (k_here; (first | with_reducible refine mod_walk (by omega) ?_ | k_dflt (refine mod_walk (by omega) ?_)); intro _ _))
local macro_rules | `(tactic| walk_at "binaryOp FloorDiv int int") => `(tactic| (k_here; (first | with_reducible refine div_walk (by omega) (by omega) ?_ | k_dflt (refine div_walk (by omega) (by omega) ?_))))
local macro_rules | `(tactic| walk_at "binaryOp Mult int int") => `(tactic| (k_here; (first | with_reducible refine mul_walk (by omega) (by omega) ?_ | k_dflt (refine mul_walk (by omega) (by omega) ?_))))
local macro_rules | `(tactic| walk_at "binaryOp Pow int int") => `(tactic| (k_here; (first | with_reducible refine pow_int_small (by decide) (by decide) (by decide) ?_ | k_dflt (refine pow_int_small (by decide) (by decide) (by decide) ?_))))
section
variable {w : World} {p : Program} {loose : List Str} {mean : ExcName → Option Value} {mg mb : Str → Option Value} {base : Heap} {news : List (Addr × Obj)}
theorem heard_size {B : Prop} {dn un' : Nat} {f c' : Addr} {Post : Value → List (Addr × Obj) → Prop} {qual : Str} {prm : Arguments} {lb : PySem.Expr} {sc : Scope} {cl : List (Str × Addr)} {pm ctv : Value} (XB : (Lw.head.heap_1 w.params).In base) (TB : Top p loose mean mg mb base) (hf : (f, kla_obj "<lambda>" qual prm lb sc cl pm c' ctv) ∈ news)
    (C : Con w base dn un' f [] news Post (fun c => B ∧ c = .ref 163)) : ConT w base (dn + 20) (un' + 200) 338 [.ref f] news (fun r news' => Post r news' ∨ (B ∧ news' = news ∧ ∃ tk, r = .str "size" tk)) (fun _ => False) := by
  w_on
  k_dflt (refine' conT_def (binds := [(Str.ofString "call", .ref f)]) XB TB ?ho ?hcd ?hb ?hl ?hn ?_ ?c1 ?c2 ?c3 ?c4)
  case ho => k_is
  case hcd => k_is
  case hb => intro _ _; first | exact BindsTo.of_eq rfl | exact binds_K (by assumption) rfl (by k_is) rfl rfl rfl
  case hl => exact locs rfl
  case hn => first | decide | omega
  case c1 => decide
  case c2 => rfl
  case c3 => rfl
  case c4 => rfl
  intro dp un gd l s g L' h' hdp hun AN F' N' l1 B' D' X' T' TT
  (try dsimp only)
  (try k_fold)
  (all_goals (repeat ((with_reducible refine OQ.use (by assumption) ?_); (try dsimp only))))
  w_strict (k_steps)
  (all_goals (repeat ((with_reducible refine OQ.use (by assumption) ?_); (try dsimp only))))
  k_dflt (refine callWith_F0 (FnAt.of (by k_asm) hf) (stop_ ?_))
  refine Stop.mk ?_
  k_dflt (refine' con_step C (by assumption) (by k_asm) (by k_asm) (by assumption) rfl rfl rfl ?hd ?hu ?hesc ?hret)
  case hd => dsimp only; omega
  case hu => dsimp only; omega
  case hret =>
    intro r9 h' tk' news' F' N' P9
    (try k_sweep)
    (try dsimp only)
    k_steps
    (all_goals (repeat ((with_reducible refine OQ.use (by assumption) ?_); (try dsimp only))))
    exact endT_c F' N' TT (.inl P9)
  case hesc =>
    intro e cls h2 tk2 hcls R
    obtain ⟨hB, hcls⟩ := hcls
    subst hcls
    obtain ⟨G, RS, FG, UG⟩ := flew_sn B' F' N' rfl R
    (try dsimp only)
    (all_goals (repeat ((with_reducible refine OQ.use (by assumption) ?_); (try dsimp only))))
    w_strict (k_steps)
    (all_goals (repeat ((with_reducible refine OQ.use (by assumption) ?_); (try dsimp only))))
    (try dsimp only)
    (all_goals (repeat ((with_reducible refine OQ.use (by assumption) ?_); (try dsimp only))))
    exact endT_c (by k_asm) (by k_asm) (by assumption) (.inr ⟨hB, rfl, _, rfl⟩)
theorem heard_form {B : Prop} {dn un' : Nat} {f c' : Addr} {Post : Value → List (Addr × Obj) → Prop} {qual : Str} {prm : Arguments} {lb : PySem.Expr} {sc : Scope} {cl : List (Str × Addr)} {pm ctv : Value} (XB : (Lw.head.heap_1 w.params).In base) (TB : Top p loose mean mg mb base) (hf : (f, kla_obj "<lambda>" qual prm lb sc cl pm c' ctv) ∈ news)
    (C : Con w base dn un' f [] news Post (fun c => B ∧ c = .ref 151)) : ConT w base (dn + 20) (un' + 200) 338 [.ref f] news (fun r news' => Post r news' ∨ (B ∧ news' = news ∧ ∃ tk, r = .str "form" tk)) (fun _ => False) := by
  w_on
  k_dflt (refine' conT_def (binds := [(Str.ofString "call", .ref f)]) XB TB ?ho ?hcd ?hb ?hl ?hn ?_ ?c1 ?c2 ?c3 ?c4)
  case ho => k_is
  case hcd => k_is
  case hb => intro _ _; first | exact BindsTo.of_eq rfl | exact binds_K (by assumption) rfl (by k_is) rfl rfl rfl
  case hl => exact locs rfl
  case hn => first | decide | omega
  case c1 => decide
  case c2 => rfl
  case c3 => rfl
  case c4 => rfl
  intro dp un gd l s g L' h' hdp hun AN F' N' l1 B' D' X' T' TT
  (try dsimp only)
  (try k_fold)
  (all_goals (repeat ((with_reducible refine OQ.use (by assumption) ?_); (try dsimp only))))
  w_strict (k_steps)
  (all_goals (repeat ((with_reducible refine OQ.use (by assumption) ?_); (try dsimp only))))
  k_dflt (refine callWith_F0 (FnAt.of (by k_asm) hf) (stop_ ?_))
  refine Stop.mk ?_
  k_dflt (refine' con_step C (by assumption) (by k_asm) (by k_asm) (by assumption) rfl rfl rfl ?hd ?hu ?hesc ?hret)
  case hd => dsimp only; omega
  case hu => dsimp only; omega
  case hret =>
    intro r9 h' tk' news' F' N' P9
    (try k_sweep)
    (try dsimp only)
    k_steps
    (all_goals (repeat ((with_reducible refine OQ.use (by assumption) ?_); (try dsimp only))))
    exact endT_c F' N' TT (.inl P9)
  case hesc =>
    intro e cls h2 tk2 hcls R
    obtain ⟨hB, hcls⟩ := hcls
    subst hcls
    obtain ⟨G, RS, FG, UG⟩ := flew_sn B' F' N' rfl R
    (try dsimp only)
    (all_goals (repeat ((with_reducible refine OQ.use (by assumption) ?_); (try dsimp only))))
    w_strict (k_steps)
    (all_goals (repeat ((with_reducible refine OQ.use (by assumption) ?_); (try dsimp only))))
    (try dsimp only)
    (all_goals (repeat ((with_reducible refine OQ.use (by assumption) ?_); (try dsimp only))))
    exact endT_c (by k_asm) (by k_asm) (by assumption) (.inr ⟨hB, rfl, _, rfl⟩)
end
local macro_rules | `(tactic| walk_at "eval Lambda") => `(tactic| (refine stop_ ?_))
local macro_rules | `(tactic| walk_at "eval IfExp") => `(tactic| ((fail_if_success (rename GoIf => hGo9)); refine stop_ ?_))
local macro_rules | `(tactic| walk_at "compareOp In int ref") => `(tactic| (k_here; (with_reducible show wpAny _ _ (compareOp CmpOp.In (Value.int _ _) (Value.ref _)) _ _ _); k_dflt (refine in_list_ints (ns := [33024, 34984]) (News.isList (by k_asm) (by k_mem)) (by l_ints) ?_); first | rw [kinds_yes (by omega)] | rw [kinds_no (by omega) (by omega)]))
local macro_rules | `(tactic| walk_at "compareOp In int ref") => `(tactic| (k_here; (with_reducible show wpAny _ _ (compareOp CmpOp.In (Value.int _ _) (Value.ref 206)) _ _ _); k_dflt (refine kinds_in (by k_asm) (by k_asm) ?_); first | rw [kinds_yes (by omega)] | rw [kinds_no (by omega) (by omega)]))
section
variable {w : World} {p : Program} {loose : List Str} {mean : ExcName → Option Value} {mg mb : Str → Option Value} {base : Heap} {news : List (Addr × Obj)}
theorem news_pull2 {g h : Heap} {L : Addr} {l r r2 : List (Addr × Obj)} {q q2 : Addr × Obj} (N : News g L h l) (P : Pull q l r) (P2 : Pull q2 r r2) : News g L h (q :: q2 :: r2) := news_sub (news_pull N P) fun p hp => by
  rcases List.mem_cons.mp hp with rfl | hp
  · exact .head _
  · exact .tail _ (P2.sub _ hp)
theorem heardK_size {dn un' : Nat} {f c' : Addr} (B : Prop) (P : Value → Prop) {qual : Str} {prm : Arguments} {lb : PySem.Expr} {sc : Scope} {cl : List (Str × Addr)} {pm ctv : Value} (XB : (Lw.head.heap_1 w.params).In base) (TB : Top p loose mean mg mb base) (hf : (f, kla_obj "<lambda>" qual prm lb sc cl pm c' ctv) ∈ news)
    (C : Con w base dn un' f [] news (fun r news' => news' = news ∧ P r) (fun c => B ∧ c = .ref 163)) : ConT w base (dn + 20) (un' + 200) 338 [.ref f] news (fun r news' => news' = news ∧ (P r ∨ (B ∧ ∃ tk, r = .str "size" tk))) (fun _ => False) :=
  conT_mono (heard_size XB TB hf C) (fun r n h => by rcases h with ⟨a, b⟩ | ⟨a, b, c⟩; exact ⟨a, .inl b⟩; exact ⟨b, .inr ⟨a, c⟩⟩) fun _ q => q
theorem off_app {ex news : List (Addr × Obj)} {a : Addr} (h1 : ∀ q ∈ ex, a < q.1) (h2 : ∀ p ∈ news, p.1 ≠ a) : ∀ p ∈ ex ++ news, p.1 ≠ a := fun p hp => by
  rcases List.mem_append.mp hp with h | h
  · exact Nat.ne_of_gt (h1 p h)
  · exact h2 p h
def SameV (a b : Value) : Prop := (∃ t u x, a = .str x t ∧ b = .str x u) ∨ ∃ ks, IsB a ks ∧ IsB b ks
theorem same_ne {prog : Program} {A : Around} {E : Value → Shared → Prop} {s : Shared} {a b : Value} {Q : Value → Shared → Prop} (h : SameV a b) (hq : Q (.bool false) s) : wpAny (model prog w) A (compareOp .NotEq a b) Q E s := by
  rcases h with ⟨t, u, x, rfl, rfl⟩ | ⟨ks, ⟨b1, t1, rfl, h1⟩, b2, t2, rfl, h2⟩
  · refine ne_str ?_
    simpa using hq
  · (all_goals (repeat ((with_reducible refine OQ.use (by assumption) ?_); (try dsimp only))))
    exact ne_same h1 h2 hq
theorem same_eq {prog : Program} {A : Around} {E : Value → Shared → Prop} {s : Shared} {a b : Value} {Q : Value → Shared → Prop} (h : SameV a b) (hq : Q (.bool true) s) : wpAny (model prog w) A (compareOp .Eq a b) Q E s := by
  rcases h with ⟨t, u, x, rfl, rfl⟩ | ⟨ks, ⟨b1, t1, rfl, h1⟩, b2, t2, rfl, h2⟩
  · refine eq_str ?_
    simpa using hq
  · exact eq_same h1 h2 hq
def BadK (k : Int) : Prop := k < 1536 ∨ 65535 < k ∨ k = 33024 ∨ k = 34984
theorem packkind_any (XB : (Lw.head.heap_1 w.params).In base) (TB : Top p loose mean mg mb base) (a dx : Addr) (x y ts : Value) (b : Array UInt8) (ks : List Int) (tb t1 t2 t3 t4 t5 : Tok) (hb : KBw.bInts b = ks) (k : Int) (tk : Tok) (h0 : 0 ≤ k) :
    Con w base 40 400 282 [.ref a] ((a, instObj 264 dx) :: (dx, frameD w x y ts (.int k tk) (.bytes b tb) t1 t2 t3 t4 t5) :: news) (fun r news' => news' = (a, instObj 264 dx) :: (dx, frameD w x y ts (.int k tk) (.bytes b tb) t1 t2 t3 t4 t5) :: news ∧ ¬ BadK k ∧ IsB r (be2 k)) (fun c => BadK k ∧ c = .ref 163) := by
  unfold BadK
  by_cases c1 : k < 1536
  · exact con_mono (packkind_intB1 XB TB a dx x y ts b ks tb t1 t2 t3 t4 t5 hb k tk h0 c1) (fun _ _ q => q.elim) fun c q => ⟨.inl c1, q⟩
  by_cases c2 : 65535 < k
  · exact con_mono (packkind_intB3 XB TB a dx x y ts b ks tb t1 t2 t3 t4 t5 hb k tk (by first | decide | omega)) (fun _ _ q => q.elim) fun c q => ⟨.inr (.inl c2), q⟩
  by_cases c3 : k = 33024 ∨ k = 34984
  · exact con_mono (packkind_intB2 XB TB a dx x y ts b ks tb t1 t2 t3 t4 t5 hb k tk c3) (fun _ _ q => q.elim) fun c q => ⟨.inr (.inr c3), q⟩
  · exact con_mono (packkind_int XB TB a dx x y ts b ks tb t1 t2 t3 t4 t5 hb k tk (by first | decide | omega) (by first | decide | omega) (by first | decide | omega) (by first | decide | omega)) (fun _ _ q => ⟨q.1, by omega, q.2⟩) fun c q => q.elim
abbrev qualL (cn : Str) : Str := (envX cn { kind := .function, names := [], isGenerator := false, isCoroutine := false } 0 0 .none []).qual ++ Str.ofString "<lambda>"
theorem packkind_many (XB : (Lw.head.heap_1 w.params).In base) (TB : Top p loose mean mg mb base) (a dx : Addr) (x y ts : Value) (b : Array UInt8) (ks : List Int) (tb t1 t2 t3 t4 t5 : Tok) (n : Int) (hb : KBw.bInts b = ks) (hn : (ks.length : Int) = n) (hn2 : n ≤ 100000) :
    Con w base 40 400 282 [.ref a] ((a, instObj 264 dx) :: (dx, frameD w x y ts .none (.bytes b tb) t1 t2 t3 t4 t5) :: news) (fun r news' => news' = (a, instObj 264 dx) :: (dx, frameD w x y ts .none (.bytes b tb) t1 t2 t3 t4 t5) :: news ∧ ¬ 1500 < n ∧ IsB r (be2 n)) (fun c => 1500 < n ∧ c = .ref 163) := by
  subst hn
  by_cases c1 : 1500 < (ks.length : Int)
  · exact con_mono (packkind_noneB XB TB a dx x y ts b ks tb t1 t2 t3 t4 t5 hb (by first | decide | omega) (by first | decide | omega)) (fun _ _ q => q.elim) fun c q => ⟨c1, q⟩
  · exact con_mono (packkind_none XB TB a dx x y ts b ks tb t1 t2 t3 t4 t5 hb (by first | decide | omega)) (fun _ _ q => ⟨q.1, c1, q.2⟩) fun c q => q.elim
inductive Pkinds_con (news : List (Addr × Obj)) (sa : Addr) (r : Value) (news' : List (Addr × Obj)) : Prop
  | mk (so' ps' ex) (f1 : r = .bool true) (f2 : Src so') (f3 : TabGood (qualL (Str.ofString "_law_kinds_right")) ps' (ex ++ news)) (f4 : news' = (sa, so') :: (340, tabObj ps') :: (ex ++ news)) (f5 : ∀ q ∈ ex, sa < q.1 ∧ ∀ z ∈ news, z.1 < q.1)
theorem kinds_con (XB : (Lw.head.heap_1 w.params).In base) (TB : Top p loose mean mg mb base) (CH : CodeHd base 344 340) (sa : Addr) (so : Obj) (ps : Array Value) (hs : Src so) (TG : TabGood (qualL (Str.ofString "_law_kinds_right")) ps news) (hoff : ∀ p ∈ news, p.1 ≠ sa) (hofP : ∀ p ∈ news, p.1 ≠ 340) (hPs : @LT.lt Nat _ 340 sa) :
    ConT w base 300 3000 345 [.ref sa] ((sa, so) :: (340, tabObj ps) :: news) (Pkinds_con news sa) (fun _ => False) := by
  w_on
  k_dflt (refine' conT_defCQ (binds := [(Str.ofString "source", .ref sa)]) XB TB ?ho ?hcd ?hb ?hl ?hnd ?hn ?_ ?c2 ?c3 ?c4)
  case ho => k_is
  case hcd => k_is
  case hb => intro _ _; first | exact BindsTo.of_eq rfl | exact binds_K (by assumption) rfl (by k_is) rfl rfl rfl
  case hl => exact rfl
  case hnd => decide +kernel
  case hn => first | decide | omega
  case c2 => rfl
  case c3 => rfl
  case c4 => rfl
  intro dp un gd l sh9 sg9 sd9 sk9 so9 g L' h' tk' cells' Q1 E1 hdp hun AN F' N' Y' l1 B' D' X' T' TT hQ1 hE1
  revert N'
  first | (k_dflt (refine cells1 (G := fun cc9 => News _ _ _ (cc9 ++ _) → _) Y' ?_); intro oc1 dc1) | (k_dflt (refine cells2 (G := fun cc9 => News _ _ _ (cc9 ++ _) → _) Y' ?_); intro oc1 oc2 dc1 dc2) | (k_dflt (refine cells3 (G := fun cc9 => News _ _ _ (cc9 ++ _) → _) Y' ?_); intro oc1 oc2 oc3 dc1 dc2 dc3) | (k_dflt (refine cells4 (G := fun cc9 => News _ _ _ (cc9 ++ _) → _) Y' ?_); intro oc1 oc2 oc3 oc4 dc1 dc2 dc3 dc4) | (k_dflt (refine cells5 (G := fun cc9 => News _ _ _ (cc9 ++ _) → _) Y' ?_); intro oc1 oc2 oc3 oc4 oc5 dc1 dc2 dc3 dc4 dc5)
  intro N'
  clear Y'
  (try dsimp only [List.cons_append, List.nil_append] at N')
  (try dsimp only)
  (try k_fold)
  have hsaL : @LT.lt Nat _ sa L' := l1 _ (.head _)
  have hPL : @LT.lt Nat _ 340 L' := Nat.lt_trans hPs hsaL
  have hnL : ∀ p ∈ news, p.1 < L' := fun p hp => l1 p (List.mem_cons_of_mem _ (List.mem_cons_of_mem _ hp))
  (all_goals (repeat ((with_reducible refine OQ.use (by assumption) ?_); (try dsimp only))))
  w_strict (k_steps)
  (all_goals (repeat ((with_reducible refine OQ.use (by assumption) ?_); (try dsimp only))))
  refine Stop.mk ?_
  refine opk (fun K9 hK9 => ?_)
  k_dflt (refine' take_k XB TB (by assumption) (by k_asm) (by k_asm) (by repeat (first | exact Pull.head _ | apply Pull.tail)) (by assumption) rfl rfl rfl ?hd103 ?hu103 ?hs ?h0103 ?h1103 ?off103 ?hret103)
  case hs => assumption
  case h0103 => first | decide | omega
  case h1103 => first | decide | omega
  case hd103 => (dsimp only; first | exact dstep1 hdp rfl | exact dstep hdp rfl | omega)
  case hu103 => (dsimp only; first | exact dstep hun rfl | exact dstep1 hun rfl | omega)
  case off103 => ((repeat (first | (with_reducible assumption) | (with_reducible refine offc ?_ ?_; k_ne) | (with_reducible refine List.forall_mem_cons.mpr ⟨?_, ?_⟩; k_ne))))
  intro d1 td so h' tk' hlod1 hhid1 hs F' N'
  (try k_sweep)
  (try dsimp only)
  (all_goals (repeat ((with_reducible refine OQ.use (by assumption) ?_); (try dsimp only))))
  w_strict (k_steps)
  (all_goals (repeat ((with_reducible refine OQ.use (by assumption) ?_); (try dsimp only))))
  refine Stop.mk ?_
  refine opk (fun K9 hK9 => ?_)
  k_dflt (refine' one_m XB TB (by assumption) (by k_asm) (by k_asm) (by repeat (first | exact Pull.head _ | apply Pull.tail)) (by repeat (first | exact Pull.head _ | apply Pull.tail)) (by assumption) rfl rfl rfl ?hd104 ?hu104 ?hs rfl rfl ?off104 ?ol104 ?hret104)
  case hs => assumption
  case ol104 => first | k_ne
  case hd104 => (dsimp only; first | exact dstep1 hdp rfl | exact dstep hdp rfl | omega)
  case hu104 => (dsimp only; first | exact dstep hun rfl | exact dstep1 hun rfl | omega)
  case off104 => ((repeat (first | (with_reducible assumption) | (with_reducible refine offc ?_ ?_; k_ne) | (with_reducible refine List.forall_mem_cons.mpr ⟨?_, ?_⟩; k_ne))))
  intro r9 so h' tk' hr9 hs F' N'
  (try k_sweep)
  (try dsimp only)
  obtain ⟨k, tk1, rfl, hk0, hk1⟩ : ∃ k tk, r9 = .int k tk ∧ 0 ≤ k ∧ k ≤ 65536 := by
    simp only [List.mem_cons, List.not_mem_nil, or_false] at hr9
    rcases hr9 with h | h | h | h | h | h | h | h | h | h | h <;> exact ⟨_, _, h, by first | decide | omega, by first | decide | omega⟩
  clear hr9
  (all_goals (repeat ((with_reducible refine OQ.use (by assumption) ?_); (try dsimp only))))
  w_strict (k_steps)
  (all_goals (repeat ((with_reducible refine OQ.use (by assumption) ?_); (try dsimp only))))
  refine Stop.mk ?_
  (all_goals (repeat ((with_reducible refine OQ.use (by assumption) ?_); (try dsimp only))))
  k_dflt (refine cut_at (fun v => (BadK k ∧ ∃ t, v = .str "size" t) ∨ (¬ BadK k ∧ IsB v (be2 k))) (by k_asm) (by k_asm) ?cut1 ?cut2)
  case cut1 =>
    intro go
    unfold BadK
    by_cases c1 : k < 1536
    · (all_goals (repeat ((with_reducible refine OQ.use (by assumption) ?_); (try dsimp only))))
      w_strict (k_steps)
      (all_goals (repeat ((with_reducible refine OQ.use (by assumption) ?_); (try dsimp only))))
      (all_goals (repeat ((with_reducible refine OQ.use (by assumption) ?_); (try dsimp only))))
      exact cut_end (by k_asm) (by k_asm) (.inl ⟨.inl c1, _, rfl⟩)
    by_cases c2 : 65535 < k
    · (all_goals (repeat ((with_reducible refine OQ.use (by assumption) ?_); (try dsimp only))))
      w_strict (k_steps)
      (all_goals (repeat ((with_reducible refine OQ.use (by assumption) ?_); (try dsimp only))))
      (all_goals (repeat ((with_reducible refine OQ.use (by assumption) ?_); (try dsimp only))))
      exact cut_end (by k_asm) (by k_asm) (.inl ⟨.inr (.inl c2), _, rfl⟩)
    by_cases c3 : k = 33024 ∨ k = 34984
    · (all_goals (repeat ((with_reducible refine OQ.use (by assumption) ?_); (try dsimp only))))
      w_strict (k_steps)
      (all_goals (repeat ((with_reducible refine OQ.use (by assumption) ?_); (try dsimp only))))
      (all_goals (repeat ((with_reducible refine OQ.use (by assumption) ?_); (try dsimp only))))
      exact cut_end (by k_asm) (sub1 (by k_asm)) (.inl ⟨.inr (.inr c3), _, rfl⟩)
    · (all_goals (repeat ((with_reducible refine OQ.use (by assumption) ?_); (try dsimp only))))
      w_strict (k_steps)
      (all_goals (repeat ((with_reducible refine OQ.use (by assumption) ?_); (try dsimp only))))
      refine Stop.mk ?_
      refine opk (fun K9 hK9 => ?_)
      k_dflt (refine' KBa.make_K ?kbaF105 ?kbaN105 ?kbah105 ?kbal105 ?kbai105 ?kbar105 ?kban105 ?_)
      case kbaF105 => k_asm
      case kbaN105 => k_asm
      case kbah105 => rfl
      case kbal105 => kba_isList
      case kbai105 => kba_listInts
      case kbar105 => (unfold KBa.In; repeat (first | exact List.forall_mem_nil _ | (refine List.forall_mem_cons.mpr ⟨?_, ?_⟩; (first | exact bit255 _ | (dsimp only; omega) | omega))))
      case kban105 => kba_size
      intro h' t' k' F' N' hIn
      (all_goals (repeat ((with_reducible refine OQ.use (by assumption) ?_); (try dsimp only))))
      refine cut_end F' (sub2 N') (.inr ⟨by omega, _, _, rfl, (KBa.ints_make hIn).trans ?_⟩)
      show [_, _] = [_, _]
      rw [Int.emod_eq_of_lt (by omega : 0 ≤ k / 256) (by first | decide | omega)]
  case cut2 =>
  intro v h' tk' F' N' hv
  (all_goals (repeat ((with_reducible refine OQ.use (by assumption) ?_); (try dsimp only))))
  w_strict (k_steps)
  (all_goals (repeat ((with_reducible refine OQ.use (by assumption) ?_); (try dsimp only))))
  refine Stop.mk ?_
  refine opk (fun K9 hK9 => ?_)
  k_dflt (refine' lam_any2 (P := 340) (by k_asm) (news_pull (by k_asm) (by repeat (first | exact Pull.head _ | apply Pull.tail))) (by assumption) (CodeHd.keeps CH (Below.stays (by assumption))) rfl ?off106 (by repeat (first | exact Split.nil | apply Split.cons)) TG rfl rfl ?hret106)
  case off106 => ((repeat (first | (with_reducible assumption) | (with_reducible refine offc ?_ ?_; k_ne) | (with_reducible refine List.forall_mem_cons.mpr ⟨?_, ?_⟩; k_ne))))
  intro f1 c1 pm ctv h' tk' ps ex1 F' N' TG1 R1 E1 G1
  (try k_sweep)
  dsimp only [AllLt] at G1
  dsimp only [List.cons_append, List.nil_append] at N' R1
  (try dsimp only)
  (all_goals (repeat ((with_reducible refine OQ.use (by assumption) ?_); (try dsimp only))))
  w_strict (k_steps)
  (all_goals (repeat ((with_reducible refine OQ.use (by assumption) ?_); (try dsimp only))))
  refine Stop.mk ?_
  refine opk (fun K9 hK9 => ?_)
  k_dflt (refine' conT_step (heardK_size (BadK k) (fun r => ¬ BadK k ∧ IsB r (be2 k)) (dn := 100) (un' := 1000) XB TB ?pull107 ?CL1) (by assumption) XB TB (by k_asm) (by k_asm) (by assumption) (by assumption) rfl rfl rfl ?hd107 ?hu107 ?hesc107 ?CR1)
  case pull107 => k_mem
  case hd107 => (dsimp only; first | exact dstep1 hdp rfl | exact dstep hdp rfl | omega)
  case hu107 => (dsimp only; first | exact dstep hun rfl | exact dstep1 hun rfl | omega)
  case hesc107 => exact fun _ _ _ _ q _ => q.elim
  case CL1 =>
    refine' con_lamQ XB TB (by k_mem) (R1.mono (fun q hq => .tail _ (.tail _ hq))) rfl (locs rfl) (by decide) ?_ (by decide) rfl rfl rfl
    intro dp un gd l sh9 sg9 sd9 sk9 so9 g L' h' Q1 E1 hdp hun AN F' N' l1 B' D' X' T' TT hQ1 hE1
    (try dsimp only)
    (try k_fold)
    (all_goals (repeat ((with_reducible refine OQ.use (by assumption) ?_); (try dsimp only))))
    w_strict (k_steps)
    (all_goals (repeat ((with_reducible refine OQ.use (by assumption) ?_); (try dsimp only))))
    refine Stop.mk ?_
    refine opk (fun K9 hK9 => ?_)
    k_dflt (refine' con_step (frame_con XB TB _ _ _ _ _ _ _ _) (by assumption) (by k_asm) (news_dup1 (by k_asm) (by k_mem)) (by assumption) rfl rfl rfl ?hd109 ?hu109 ?hesc109 ?hret109)
    case hd109 => (dsimp only; first | exact dstep1 hdp rfl | exact dstep hdp rfl | omega)
    case hu109 => (dsimp only; first | exact dstep hun rfl | exact dstep1 hun rfl | omega)
    case hesc109 => exact fun _ _ _ _ q _ => q.elim
    intro r9 h' tk' news' F' N' P9
    (try k_sweep)
    (try dsimp only)
    obtain ⟨z, dx, t1, t2, t3, t4, t5, tb', rfl, rfl, lo1, lo2, lo3⟩ := P9
    (all_goals (repeat ((with_reducible refine OQ.use (by assumption) ?_); (try dsimp only))))
    w_strict (k_steps)
    (all_goals (repeat ((with_reducible refine OQ.use (by assumption) ?_); (try dsimp only))))
    refine Stop.mk ?_
    refine opk (fun K9 hK9 => ?_)
    k_dflt (refine' con_step (packkind_any XB TB _ _ _ _ _ _ [] _ _ _ _ _ _ rfl k _ hk0) (by assumption) (by k_asm) (news_dup2 (by k_asm) (by k_mem) (by k_mem)) (by assumption) rfl rfl rfl ?hd110 ?hu110 ?hesc110 ?hret110)
    case hd110 => (dsimp only; first | exact dstep1 hdp rfl | exact dstep hdp rfl | omega)
    case hu110 => (dsimp only; first | exact dstep hun rfl | exact dstep1 hun rfl | omega)
    case hesc110 =>
      refine con_pass2 (by first | exact fun _ _ x => x | (rename EQ9 _ _ => hE9; exact EQ9.pass hE9)) (by assumption) (by k_asm) (news_dup2 (by k_asm) (by k_mem) (by k_mem)) (by assumption) rfl ?sub110 rfl rfl ?pe110
      case sub110 => intro _ hq; repeat (first | exact hq | refine List.mem_cons_of_mem _ ?_)
      case pe110 => first | exact fun _ x => x | exact fun _ x => ⟨trivial, x⟩
    intro r9 h' tk' news' F' N' P9
    (try k_sweep)
    (try dsimp only)
    obtain ⟨rfl, P9⟩ := P9
    (all_goals (repeat ((with_reducible refine OQ.use (by assumption) ?_); (try dsimp only))))
    w_strict (k_steps)
    (all_goals (repeat ((with_reducible refine OQ.use (by assumption) ?_); (try dsimp only))))
    (try dsimp only)
    (all_goals (repeat ((with_reducible refine OQ.use (by assumption) ?_); (try dsimp only))))
    w_strict (k_steps)
    (all_goals (repeat ((with_reducible refine OQ.use (by assumption) ?_); (try dsimp only))))
    refine end_c (by k_asm) ?keepN TT ⟨rfl, by assumption⟩
    case keepN => exact news_sub (by k_asm) (fun q hq => by repeat (first | exact hq | refine List.mem_cons_of_mem _ ?_))
  case CR1 =>
    clear B' D' X' T' TT F' N'
    intro r gk' h' tk' news' F' N' B' D' TT X' T' P9
    obtain ⟨rfl, P9⟩ := P9
    (try dsimp only)
    (all_goals (repeat ((with_reducible refine OQ.use (by assumption) ?_); (try dsimp only))))
    w_strict (k_steps)
    (all_goals (repeat ((with_reducible refine OQ.use (by assumption) ?_); (try dsimp only))))
    (all_goals (repeat ((with_reducible refine OQ.use (by assumption) ?_); (try dsimp only))))
    k_dflt (refine same_ne ?_ ?_)
    · rcases hv with ⟨hb, t1, rfl⟩ | ⟨hb, hv⟩ <;> rcases P9 with ⟨hc, P9⟩ | ⟨hc, t2, rfl⟩
      · exact absurd hb hc
      · exact .inl ⟨_, _, _, rfl, rfl⟩
      · exact .inr ⟨_, P9, hv⟩
      · exact absurd hc hb
    have ho1 : ∀ p ∈ ex1 ++ news, p.1 ≠ sa := off_app (fun q hq => (E1 q hq).1.2 (sa, _) (by k_mem)) hoff
    have hc1 : ∀ p ∈ ex1 ++ news, p.1 ≠ L' + 1 + 1 := off_app (fun q hq => (E1 q hq).1.2 (L' + 1 + 1, _) (by k_mem)) (all_of_lt hnL (by first | exact Nat.le_add_right _ 1 | exact Nat.le_add_right _ 2 | exact Nat.le_add_right _ 3 | exact Nat.le_add_right _ 4 | exact Nat.le_add_right _ 5))
    have hp1 : ∀ p ∈ ex1 ++ news, p.1 ≠ 340 := off_app (fun q hq => (E1 q hq).1.1) hofP
    (all_goals (repeat ((with_reducible refine OQ.use (by assumption) ?_); (try dsimp only))))
    w_strict (k_steps)
    (all_goals (repeat ((with_reducible refine OQ.use (by assumption) ?_); (try dsimp only))))
    refine Stop.mk ?_
    refine opk (fun K9 hK9 => ?_)
    k_dflt (refine' one_r 0 4000 XB TB ?hv (by assumption) (by k_asm) (by k_asm) (by repeat (first | exact Pull.head _ | apply Pull.tail)) (by repeat (first | exact Pull.head _ | apply Pull.tail)) (by assumption) rfl rfl rfl ?hd113 ?hu113 ?hs rfl rfl ?off113 ?ol113 ?hret113)
    case hv => rfl
    case hs => assumption
    case ol113 => first | k_ne
    case hd113 => (dsimp only; first | exact dstep1 hdp rfl | exact dstep hdp rfl | omega)
    case hu113 => (dsimp only; first | exact dstep hun rfl | exact dstep1 hun rfl | omega)
    case off113 => ((repeat (first | (with_reducible assumption) | (with_reducible refine offc ?_ ?_; k_ne) | (with_reducible refine List.forall_mem_cons.mpr ⟨?_, ?_⟩; k_ne))))
    intro n tk2 so h' tk' hn0 hn1 hs F' N'
    (try k_sweep)
    (try dsimp only)
    (all_goals (repeat ((with_reducible refine OQ.use (by assumption) ?_); (try dsimp only))))
    w_strict (k_steps)
    (all_goals (repeat ((with_reducible refine OQ.use (by assumption) ?_); (try dsimp only))))
    refine Stop.mk ?_
    (all_goals (repeat ((with_reducible refine OQ.use (by assumption) ?_); (try dsimp only))))
    k_dflt (refine cut_at (fun v => (1500 < n ∧ ∃ t, v = .str "size" t) ∨ (¬ 1500 < n ∧ IsB v (be2 n))) (by k_asm) (by k_asm) ?cut3 ?cut4)
    case cut3 =>
      intro go
      by_cases c1 : 1500 < n
      · (all_goals (repeat ((with_reducible refine OQ.use (by assumption) ?_); (try dsimp only))))
        w_strict (k_steps)
        (all_goals (repeat ((with_reducible refine OQ.use (by assumption) ?_); (try dsimp only))))
        (all_goals (repeat ((with_reducible refine OQ.use (by assumption) ?_); (try dsimp only))))
        exact cut_end (by k_asm) (by k_asm) (.inl ⟨c1, _, rfl⟩)
      · (all_goals (repeat ((with_reducible refine OQ.use (by assumption) ?_); (try dsimp only))))
        w_strict (k_steps)
        (all_goals (repeat ((with_reducible refine OQ.use (by assumption) ?_); (try dsimp only))))
        refine Stop.mk ?_
        refine opk (fun K9 hK9 => ?_)
        k_dflt (refine' KBa.make_K ?kbaF114 ?kbaN114 ?kbah114 ?kbal114 ?kbai114 ?kbar114 ?kban114 ?_)
        case kbaF114 => k_asm
        case kbaN114 => k_asm
        case kbah114 => rfl
        case kbal114 => kba_isList
        case kbai114 => kba_listInts
        case kbar114 => (unfold KBa.In; repeat (first | exact List.forall_mem_nil _ | (refine List.forall_mem_cons.mpr ⟨?_, ?_⟩; (first | exact bit255 _ | (dsimp only; omega) | omega))))
        case kban114 => kba_size
        intro h' t' k' F' N' hIn
        (all_goals (repeat ((with_reducible refine OQ.use (by assumption) ?_); (try dsimp only))))
        refine cut_end F' (sub1 N') (.inr ⟨by omega, _, _, rfl, (KBa.ints_make hIn).trans ?_⟩)
        show [_, _] = [_, _]
        rw [Int.emod_eq_of_lt (by omega : 0 ≤ n / 256) (by first | decide | omega)]
    case cut4 =>
    intro v h' tk' F' N' hv
    (all_goals (repeat ((with_reducible refine OQ.use (by assumption) ?_); (try dsimp only))))
    w_strict (k_steps)
    (all_goals (repeat ((with_reducible refine OQ.use (by assumption) ?_); (try dsimp only))))
    refine Stop.mk ?_
    refine opk (fun K9 hK9 => ?_)
    k_dflt (refine' lam_any2 (P := 340) (by k_asm) (news_pull (by k_asm) (by repeat (first | exact Pull.head _ | apply Pull.tail))) (by assumption) (CodeHd.keeps CH (Below.stays (by assumption))) rfl ?off115 (by repeat (first | exact Split.nil | apply Split.cons)) TG1 rfl rfl ?hret115)
    case off115 => ((repeat (first | (with_reducible assumption) | (with_reducible refine offc ?_ ?_; k_ne) | (with_reducible refine List.forall_mem_cons.mpr ⟨?_, ?_⟩; k_ne))))
    intro f2 c2 pm ctv h' tk' ps ex2 F' N' TG2 R2 E2 G2
    (try k_sweep)
    dsimp only [AllLt] at G2
    dsimp only [List.cons_append, List.nil_append] at N' R2
    (try dsimp only)
    (all_goals (repeat ((with_reducible refine OQ.use (by assumption) ?_); (try dsimp only))))
    w_strict (k_steps)
    (all_goals (repeat ((with_reducible refine OQ.use (by assumption) ?_); (try dsimp only))))
    refine Stop.mk ?_
    refine opk (fun K9 hK9 => ?_)
    k_dflt (refine' conT_step (heardK_size (1500 < n) (fun r => ¬ 1500 < n ∧ IsB r (be2 n)) (dn := 100) (un' := 1000) XB TB ?pull116 ?CL2) (by assumption) XB TB (by k_asm) (by k_asm) (by assumption) (by assumption) rfl rfl rfl ?hd116 ?hu116 ?hesc116 ?CR2)
    case pull116 => k_mem
    case hd116 => (dsimp only; first | exact dstep1 hdp rfl | exact dstep hdp rfl | omega)
    case hu116 => (dsimp only; first | exact dstep hun rfl | exact dstep1 hun rfl | omega)
    case hesc116 => exact fun _ _ _ _ q _ => q.elim
    case CL2 =>
      refine' con_lamQ XB TB (by k_mem) (R2.mono (fun q hq => .tail _ (.tail _ hq))) rfl (locs rfl) (by decide) ?_ (by decide) rfl rfl rfl
      intro dp un gd l sh9 sg9 sd9 sk9 so9 g L' h' Q1 E1 hdp hun AN F' N' l1 B' D' X' T' TT hQ1 hE1
      (try dsimp only)
      (try k_fold)
      (all_goals (repeat ((with_reducible refine OQ.use (by assumption) ?_); (try dsimp only))))
      w_strict (k_steps)
      (all_goals (repeat ((with_reducible refine OQ.use (by assumption) ?_); (try dsimp only))))
      refine Stop.mk ?_
      refine opk (fun K9 hK9 => ?_)
      k_dflt (refine' con_step (frame_con XB TB _ _ _ _ _ _ _ _) (by assumption) (by k_asm) (news_dup1 (by k_asm) (by k_mem)) (by assumption) rfl rfl rfl ?hd118 ?hu118 ?hesc118 ?hret118)
      case hd118 => (dsimp only; first | exact dstep1 hdp rfl | exact dstep hdp rfl | omega)
      case hu118 => (dsimp only; first | exact dstep hun rfl | exact dstep1 hun rfl | omega)
      case hesc118 => exact fun _ _ _ _ q _ => q.elim
      intro r9 h' tk' news' F' N' P9
      (try k_sweep)
      (try dsimp only)
      obtain ⟨z, dx, t1, t2, t3, t4, t5, tb', rfl, rfl, lo1, lo2, lo3⟩ := P9
      (all_goals (repeat ((with_reducible refine OQ.use (by assumption) ?_); (try dsimp only))))
      w_strict (k_steps)
      (all_goals (repeat ((with_reducible refine OQ.use (by assumption) ?_); (try dsimp only))))
      refine Stop.mk ?_
      refine opk (fun K9 hK9 => ?_)
      k_dflt (refine' con_step (packkind_many XB TB _ _ _ _ _ _ (List.replicate n.toNat 0) _ _ _ _ _ _ n (by assumption) (by rw [List.length_replicate]; omega) (by first | decide | omega)) (by assumption) (by k_asm) (news_dup2 (by k_asm) (by k_mem) (by k_mem)) (by assumption) rfl rfl rfl ?hd119 ?hu119 ?hesc119 ?hret119)
      case hd119 => (dsimp only; first | exact dstep1 hdp rfl | exact dstep hdp rfl | omega)
      case hu119 => (dsimp only; first | exact dstep hun rfl | exact dstep1 hun rfl | omega)
      case hesc119 =>
        refine con_pass2 (by first | exact fun _ _ x => x | (rename EQ9 _ _ => hE9; exact EQ9.pass hE9)) (by assumption) (by k_asm) (news_dup2 (by k_asm) (by k_mem) (by k_mem)) (by assumption) rfl ?sub119 rfl rfl ?pe119
        case sub119 => intro _ hq; repeat (first | exact hq | refine List.mem_cons_of_mem _ ?_)
        case pe119 => first | exact fun _ x => x | exact fun _ x => ⟨trivial, x⟩
      intro r9 h' tk' news' F' N' P9
      (try k_sweep)
      (try dsimp only)
      obtain ⟨rfl, P9⟩ := P9
      (all_goals (repeat ((with_reducible refine OQ.use (by assumption) ?_); (try dsimp only))))
      w_strict (k_steps)
      (all_goals (repeat ((with_reducible refine OQ.use (by assumption) ?_); (try dsimp only))))
      refine end_c (by k_asm) ?keepN TT ⟨rfl, by assumption⟩
      case keepN => exact news_sub (by k_asm) (fun q hq => by repeat (first | exact hq | refine List.mem_cons_of_mem _ ?_))
    case CR2 =>
      clear B' D' X' T' TT F' N'
      intro r gk' h' tk' news' F' N' B' D' TT X' T' P9
      obtain ⟨rfl, P9⟩ := P9
      (try dsimp only)
      (all_goals (repeat ((with_reducible refine OQ.use (by assumption) ?_); (try dsimp only))))
      w_strict (k_steps)
      (all_goals (repeat ((with_reducible refine OQ.use (by assumption) ?_); (try dsimp only))))
      (all_goals (repeat ((with_reducible refine OQ.use (by assumption) ?_); (try dsimp only))))
      k_dflt (refine same_eq ?_ ?_)
      · rcases hv with ⟨hb, t1, rfl⟩ | ⟨hb, hv⟩ <;> rcases P9 with ⟨hc, P9⟩ | ⟨hc, t2, rfl⟩
        · exact absurd hb hc
        · exact .inl ⟨_, _, _, rfl, rfl⟩
        · exact .inr ⟨_, P9, hv⟩
        · exact absurd hc hb
      (all_goals (repeat ((with_reducible refine OQ.use (by assumption) ?_); (try dsimp only))))
      w_strict (k_steps)
      (all_goals (repeat ((with_reducible refine OQ.use (by assumption) ?_); (try dsimp only))))
      (try dsimp only)
      (all_goals (repeat ((with_reducible refine OQ.use (by assumption) ?_); (try dsimp only))))
      refine endT_c (by k_asm) ?endN TT ⟨so, ps, ex2 ++ ex1, rfl, hs, by rw [List.append_assoc]; exact TG2, rfl, ?endL⟩
      case endN =>
        rw [List.append_assoc]
        exact news_sub (by k_asm) (List.forall_mem_cons.mpr ⟨by k_mem, List.forall_mem_cons.mpr ⟨by k_mem, fun q hq => by repeat (first | exact hq | refine List.mem_cons_of_mem _ ?_)⟩⟩)
      case endL =>
        intro q hq
        rcases List.mem_append.mp hq with h | h
        · exact ⟨(E2 q h).1.2 (sa, _) (by k_mem), fun z hz => (E2 q h).1.2 z (by repeat (first | exact List.mem_append_right _ hz | refine List.mem_cons_of_mem _ ?_))⟩
        · exact ⟨(E1 q h).1.2 (sa, _) (by k_mem), fun z hz => (E1 q h).1.2 z (by repeat (first | exact hz | refine List.mem_cons_of_mem _ ?_))⟩
end
local macro_rules | `(tactic| walk_at "exec If") => `(tactic| ((rename CutIf => hCut9); clear hCut9; refine stop_ ?_))
local macro_rules | `(tactic| walk_at "compareOp In int ref") => `(tactic| (k_here; (with_reducible show wpAny _ _ (compareOp CmpOp.In (Value.int _ _) (Value.ref _)) _ _ _); k_dflt (refine in_list_ints (ns := [33024, 34984]) (News.isList (by k_asm) (by k_mem)) (by l_ints) ?_); first | rw [kinds_yes (by omega)] | rw [kinds_no (by omega) (by omega)]))
local macro_rules | `(tactic| walk_at "compareOp In int ref") => `(tactic| (k_here; (with_reducible show wpAny _ _ (compareOp CmpOp.In (Value.int _ _) (Value.ref _)) _ _ _); k_dflt (first
  | (refine in_range (by assumption) true (decide_eq_true (by omega)).symm ?_)
  | (refine in_range (by assumption) false (decide_eq_false (by omega)).symm ?_))))
local macro_rules | `(tactic| walk_at "compareOp In int ref") => `(tactic| (k_here; (with_reducible show wpAny _ _ (compareOp CmpOp.In (Value.int _ _) (Value.ref 206)) _ _ _); k_dflt (refine kinds_in (by k_asm) (by k_asm) ?_); first | rw [kinds_yes (by omega)] | rw [kinds_no (by omega) (by omega)]))
section
variable {w : World} {p : Program} {loose : List Str} {mean : ExcName → Option Value} {mg mb : Str → Option Value} {base : Heap} {news : List (Addr × Obj)}
theorem pow48 {prog : Program} {A : Around} {E : Value → Shared → Prop} {sh : Heap} {sg : Array GenState} {sd : Drawn} {sk : Nat} {so : OsState} {t u : Tok} {Q : Value → Shared → Prop} (h : Q (.int 281474976710656 sk) ⟨sh, sg, sd, sk + 1, so⟩) : wpAny (model prog w) A (binaryOp .Pow (.int 2 t) (.int 48 u)) Q E ⟨sh, sg, sd, sk, so⟩ := by
  refine pow_int_small (by decide) (by decide) (by decide) ?_
  rw [show (2 : Int) ^ (48 : Int).toNat = 281474976710656 from by decide]
  exact h
local macro_rules | `(tactic| walk_at "binaryOp Pow int int") => `(tactic| (k_here; k_dflt (refine pow48 ?_)))
def BadT (k pr v : Int) : Prop := ¬ ((k = 33024 ∨ k = 34984) ∧ 0 ≤ pr ∧ pr ≤ 7 ∧ 0 ≤ v ∧ v < 4095)
theorem packtag_any (XB : (Lw.head.heap_1 w.params).In base) (TB : Top p loose mean mg mb base) (a dx : Addr) (k pr v : Int) (d : Bool) (t1 t2 t3 t4 t5 t6 t7 : Tok) :
    Con w base 40 400 275 [.ref a] ((a, instObj 230 dx) :: (dx, tagD w (.int k t5) (.int pr t6) (.bool d) (.int v t7) t1 t2 t3 t4) :: news) (fun r news' => news' = (a, instObj 230 dx) :: (dx, tagD w (.int k t5) (.int pr t6) (.bool d) (.int v t7) t1 t2 t3 t4) :: news ∧ ¬ BadT k pr v ∧ IsB r (tagB k pr d v)) (fun c => BadT k pr v ∧ c = .ref 163) := by
  unfold BadT
  by_cases c1 : k = 33024 ∨ k = 34984
  · by_cases c2 : pr < 0
    · exact con_mono (packtag_bad2 XB TB a dx k pr v d t1 t2 t3 t4 t5 t6 t7 c1 c2) (fun _ _ q => q.elim) fun c q => ⟨by omega, q⟩
    by_cases c3 : 7 < pr
    · exact con_mono (packtag_bad3 XB TB a dx k pr v d t1 t2 t3 t4 t5 t6 t7 c1 c3) (fun _ _ q => q.elim) fun c q => ⟨by omega, q⟩
    by_cases c4 : v < 0
    · exact con_mono (packtag_bad4 XB TB a dx k pr v d t1 t2 t3 t4 t5 t6 t7 c1 (by first | decide | omega) (by first | decide | omega) c4) (fun _ _ q => q.elim) fun c q => ⟨by omega, q⟩
    by_cases c5 : 4095 ≤ v
    · exact con_mono (packtag_bad5 XB TB a dx k pr v d t1 t2 t3 t4 t5 t6 t7 c1 (by first | decide | omega) (by first | decide | omega) (by first | decide | omega) c5) (fun _ _ q => q.elim) fun c q => ⟨by omega, q⟩
    · exact con_mono (packtag_good XB TB a dx k pr v d t1 t2 t3 t4 t5 t6 t7 c1 (by first | decide | omega) (by first | decide | omega) (by first | decide | omega) (by first | decide | omega)) (fun _ _ q => ⟨q.1, by omega, q.2⟩) fun c q => q.elim
  · exact con_mono (packtag_bad1 XB TB a dx k pr v d t1 t2 t3 t4 t5 t6 t7 (by first | decide | omega) (by first | decide | omega)) (fun _ _ q => q.elim) fun c q => ⟨by omega, q⟩
theorem tag_ints (k p v : Int) (d : Bool) (hk : k = 33024 ∨ k = 34984) (h0 : 0 ≤ p) (h1 : p < 8) (h2 : 0 ≤ v) (h3 : v < 4095) : [k / 256, k % 256, 32 * p + 16 * (if d then 1 else 0) + v / 256, v % 256] = tagB k p d v := by
  show [_, _, _, _] = [_, _, _, _]
  have e1 : k / 256 = k / 256 % 256 := by rcases hk with rfl | rfl <;> rfl
  cases d
  · simp only [Bool.false_eq_true, if_false]
    rw [← e1, show 32 * p + 16 * 0 + v / 256 = (p * 8192 + 0 + v) / 256 % 256 by omega, show v % 256 = (p * 8192 + 0 + v) % 256 by omega]
  · simp only [if_true]
    rw [← e1, show 32 * p + 16 * 1 + v / 256 = (p * 8192 + 4096 + v) / 256 % 256 by omega, show v % 256 = (p * 8192 + 4096 + v) % 256 by omega]
def BadM (x : Int) : Prop := x < 0 ∨ 281474976710656 ≤ x
theorem packframe_bad (XB : (Lw.head.heap_1 w.params).In base) (TB : Top p loose mean mg mb base) (a dx ta : Addr) (n : Nat) (x y : Int) (kd b : Value) (tx ty t1 t2 t3 t4 t5 : Tok) (h : BadM x ∨ (0 ≤ x ∧ x < 281474976710656 ∧ BadM y)) :
    Con w base 60 800 288 [.ref a] ((a, instObj 264 dx) :: (dx, frameD w (.int x tx) (.int y ty) (.ref ta) kd b t1 t2 t3 t4 t5) :: (ta, ⟨Value.type "tuple", none, Data.seq #[] n, #[]⟩) :: news) (fun r news' => False) (fun c => c = .ref 163) := by
  rcases h with h | ⟨h0, h1, h⟩
  · exact packframe0x XB TB a dx ta n x (.int y ty) kd b tx t1 t2 t3 t4 t5 h
  · exact packframe0y XB TB a dx ta n x y kd b tx ty t1 t2 t3 t4 t5 h0 h1 h
theorem pick3 {g h : Heap} {L : Addr} {l : List (Addr × Obj)} (K : Addr → Prop) (N : News g L h l) {r9 : Value} {D1 D2 D3 : Addr} {odd mac : Int} {to tm : Tok} {n1 n2 n3 : Nat} (h1 : (D1, (⟨Value.type "tuple", none, Data.seq #[.int odd to, .int mac tm] n1, #[]⟩ : Obj)) ∈ l) (h2 : (D2, (⟨Value.type "tuple", none, Data.seq #[.int mac tm, .int odd to] n2, #[]⟩ : Obj)) ∈ l) (h3 : (D3, (⟨Value.type "tuple", none, Data.seq #[.int odd to, .int odd to] n3, #[]⟩ : Obj)) ∈ l)
    (hr : r9 ∈ [Value.ref D1, .ref D2, .ref D3]) (k1 : K D1) (k2 : K D2) (k3 : K D3) (ho : BadM odd) (hm0 : 0 ≤ mac) (hm1 : mac < 281474976710656) :
    ∃ ea x y tx ty n, r9 = .ref ea ∧ (BadM x ∨ (0 ≤ x ∧ x < 281474976710656 ∧ BadM y)) ∧ K ea ∧ News g L h ((ea, (⟨Value.type "tuple", none, Data.seq #[.int x tx, .int y ty] n, #[]⟩ : Obj)) :: l) := by
  simp only [List.mem_cons, List.not_mem_nil, or_false] at hr
  rcases hr with rfl | rfl | rfl
  · exact ⟨_, _, _, _, _, _, rfl, .inl ho, k1, news_dup1 N h1⟩
  · exact ⟨_, _, _, _, _, _, rfl, .inr ⟨hm0, hm1, ho⟩, k2, news_dup1 N h2⟩
  · exact ⟨_, _, _, _, _, _, rfl, .inl ho, k3, news_dup1 N h3⟩
inductive Ptags_con (news : List (Addr × Obj)) (sa : Addr) (r : Value) (news' : List (Addr × Obj)) : Prop
  | mk (so' ps' ex) (f1 : r = .bool true) (f2 : Src so') (f3 : TabGood (qualL (Str.ofString "_law_tags_right")) ps' (ex ++ news)) (f4 : news' = (sa, so') :: (347, tabObj ps') :: (ex ++ news)) (f5 : ∀ q ∈ ex, sa < q.1 ∧ ∀ z ∈ news, z.1 < q.1)
theorem tags_con (XB : (Lw.head.heap_1 w.params).In base) (TB : Top p loose mean mg mb base) (CH : CodeHd base 351 347) (sa : Addr) (so : Obj) (ps : Array Value) (hs : Src so) (TG : TabGood (qualL (Str.ofString "_law_tags_right")) ps news) (hoff : ∀ p ∈ news, p.1 ≠ sa) (hofP : ∀ p ∈ news, p.1 ≠ 347) (hPs : @LT.lt Nat _ 347 sa) :
    ConT w base 300 3000 352 [.ref sa] ((sa, so) :: (347, tabObj ps) :: news) (Ptags_con news sa) (fun _ => False) := by
  w_on
  k_dflt (refine' conT_defCQ (binds := [(Str.ofString "source", .ref sa)]) XB TB ?ho ?hcd ?hb ?hl ?hnd ?hn ?_ ?c2 ?c3 ?c4)
  case ho => k_is
  case hcd => k_is
  case hb => intro _ _; first | exact BindsTo.of_eq rfl | exact binds_K (by assumption) rfl (by k_is) rfl rfl rfl
  case hl => exact rfl
  case hnd => decide +kernel
  case hn => first | decide | omega
  case c2 => rfl
  case c3 => rfl
  case c4 => rfl
  intro dp un gd l sh9 sg9 sd9 sk9 so9 g L' h' tk' cells' Q1 E1 hdp hun AN F' N' Y' l1 B' D' X' T' TT hQ1 hE1
  revert N'
  first | (k_dflt (refine cells1 (G := fun cc9 => News _ _ _ (cc9 ++ _) → _) Y' ?_); intro oc1 dc1) | (k_dflt (refine cells2 (G := fun cc9 => News _ _ _ (cc9 ++ _) → _) Y' ?_); intro oc1 oc2 dc1 dc2) | (k_dflt (refine cells3 (G := fun cc9 => News _ _ _ (cc9 ++ _) → _) Y' ?_); intro oc1 oc2 oc3 dc1 dc2 dc3) | (k_dflt (refine cells4 (G := fun cc9 => News _ _ _ (cc9 ++ _) → _) Y' ?_); intro oc1 oc2 oc3 oc4 dc1 dc2 dc3 dc4) | (k_dflt (refine cells5 (G := fun cc9 => News _ _ _ (cc9 ++ _) → _) Y' ?_); intro oc1 oc2 oc3 oc4 oc5 dc1 dc2 dc3 dc4 dc5)
  intro N'
  clear Y'
  (try dsimp only [List.cons_append, List.nil_append] at N')
  (try dsimp only)
  (try k_fold)
  have hsaL : @LT.lt Nat _ sa L' := l1 _ (.head _)
  have hPL : @LT.lt Nat _ 347 L' := Nat.lt_trans hPs hsaL
  have hnL : ∀ p ∈ news, p.1 < L' := fun p hp => l1 p (List.mem_cons_of_mem _ (List.mem_cons_of_mem _ hp))
  have hcut : CutIf := trivial
  (all_goals (repeat ((with_reducible refine OQ.use (by assumption) ?_); (try dsimp only))))
  w_strict (k_steps)
  (all_goals (repeat ((with_reducible refine OQ.use (by assumption) ?_); (try dsimp only))))
  refine Stop.mk ?_
  refine opk (fun K9 hK9 => ?_)
  k_dflt (refine' one_r 0 65535 XB TB ?hv (by assumption) (by k_asm) (by k_asm) (by repeat (first | exact Pull.head _ | apply Pull.tail)) (by repeat (first | exact Pull.head _ | apply Pull.tail)) (by assumption) rfl rfl rfl ?hd123 ?hu123 ?hs rfl rfl ?off123 ?ol123 ?hret123)
  case hv => rfl
  case hs => assumption
  case ol123 => first | k_ne
  case hd123 => (dsimp only; first | exact dstep1 hdp rfl | exact dstep hdp rfl | omega)
  case hu123 => (dsimp only; first | exact dstep hun rfl | exact dstep1 hun rfl | omega)
  case off123 => ((repeat (first | (with_reducible assumption) | (with_reducible refine offc ?_ ?_; k_ne) | (with_reducible refine List.forall_mem_cons.mpr ⟨?_, ?_⟩; k_ne))))
  intro k tk1 so h' tk' hk0 hk1 hs F' N'
  (try k_sweep)
  (try dsimp only)
  (all_goals (repeat ((with_reducible refine OQ.use (by assumption) ?_); (try dsimp only))))
  w_strict (k_steps)
  (all_goals (repeat ((with_reducible refine OQ.use (by assumption) ?_); (try dsimp only))))
  refine Stop.mk ?_
  refine opk (fun K9 hK9 => ?_)
  k_dflt (refine' one_r (-1) 8 XB TB ?hv (by assumption) (by k_asm) (by k_asm) (by repeat (first | exact Pull.head _ | apply Pull.tail)) (by repeat (first | exact Pull.head _ | apply Pull.tail)) (by assumption) rfl rfl rfl ?hd124 ?hu124 ?hs rfl rfl ?off124 ?ol124 ?hret124)
  case hv => rfl
  case hs => assumption
  case ol124 => first | k_ne
  case hd124 => (dsimp only; first | exact dstep1 hdp rfl | exact dstep hdp rfl | omega)
  case hu124 => (dsimp only; first | exact dstep hun rfl | exact dstep1 hun rfl | omega)
  case off124 => ((repeat (first | (with_reducible assumption) | (with_reducible refine offc ?_ ?_; k_ne) | (with_reducible refine List.forall_mem_cons.mpr ⟨?_, ?_⟩; k_ne))))
  intro pr tk2 so h' tk' hp0 hp1 hs F' N'
  (try k_sweep)
  (try dsimp only)
  (all_goals (repeat ((with_reducible refine OQ.use (by assumption) ?_); (try dsimp only))))
  w_strict (k_steps)
  (all_goals (repeat ((with_reducible refine OQ.use (by assumption) ?_); (try dsimp only))))
  refine Stop.mk ?_
  refine opk (fun K9 hK9 => ?_)
  k_dflt (refine' take_k XB TB (by assumption) (by k_asm) (by k_asm) (by repeat (first | exact Pull.head _ | apply Pull.tail)) (by assumption) rfl rfl rfl ?hd125 ?hu125 ?hs ?h0125 ?h1125 ?off125 ?hret125)
  case hs => assumption
  case h0125 => first | decide | omega
  case h1125 => first | decide | omega
  case hd125 => (dsimp only; first | exact dstep1 hdp rfl | exact dstep hdp rfl | omega)
  case hu125 => (dsimp only; first | exact dstep hun rfl | exact dstep1 hun rfl | omega)
  case off125 => ((repeat (first | (with_reducible assumption) | (with_reducible refine offc ?_ ?_; k_ne) | (with_reducible refine List.forall_mem_cons.mpr ⟨?_, ?_⟩; k_ne))))
  intro d2 td so h' tk' hlod2 hhid2 hs F' N'
  (try k_sweep)
  (try dsimp only)
  (all_goals (repeat ((with_reducible refine OQ.use (by assumption) ?_); (try dsimp only))))
  w_strict (k_steps)
  (all_goals (repeat ((with_reducible refine OQ.use (by assumption) ?_); (try dsimp only))))
  refine Stop.mk ?_
  refine opk (fun K9 hK9 => ?_)
  k_dflt (refine' one_r (-1) 4096 XB TB ?hv (by assumption) (by k_asm) (by k_asm) (by repeat (first | exact Pull.head _ | apply Pull.tail)) (by repeat (first | exact Pull.head _ | apply Pull.tail)) (by assumption) rfl rfl rfl ?hd126 ?hu126 ?hs rfl rfl ?off126 ?ol126 ?hret126)
  case hv => rfl
  case hs => assumption
  case ol126 => first | k_ne
  case hd126 => (dsimp only; first | exact dstep1 hdp rfl | exact dstep hdp rfl | omega)
  case hu126 => (dsimp only; first | exact dstep hun rfl | exact dstep1 hun rfl | omega)
  case off126 => ((repeat (first | (with_reducible assumption) | (with_reducible refine offc ?_ ?_; k_ne) | (with_reducible refine List.forall_mem_cons.mpr ⟨?_, ?_⟩; k_ne))))
  intro vl tk3 so h' tk' hv0 hv1 hs F' N'
  (try k_sweep)
  (try dsimp only)
  rename News _ _ _ _ => N9
  rcases news_thin N9 (by repeat (first | apply Thin.dropL | apply Thin.dropT | apply Thin.keep | exact Thin.nil _)) with N'
  clear N9
  (all_goals (repeat ((with_reducible refine OQ.use (by assumption) ?_); (try dsimp only))))
  w_strict (k_steps)
  (all_goals (repeat ((with_reducible refine OQ.use (by assumption) ?_); (try dsimp only))))
  refine Stop.mk ?_
  refine opk (fun K9 hK9 => ?_)
  k_dflt (refine cut_if (Str.ofString "due") (fun v => (BadT k pr vl ∧ ∃ t, v = .str "size" t) ∨ (¬ BadT k pr vl ∧ IsB v (tagB k pr (d2 == 0) vl))) (by k_asm) (news_thin (by k_asm) (by repeat (first | apply Thin.dropL | apply Thin.dropT | apply Thin.keep | exact Thin.nil _))) ?cutA1 ?cutB1)
  case cutA1 =>
    intro go
    unfold BadT
    by_cases c1 : k = 33024 ∨ k = 34984
    · by_cases c2 : 0 ≤ pr ∧ pr < 8
      · by_cases c3 : 0 ≤ vl ∧ vl < 4095
        · (all_goals (repeat ((with_reducible refine OQ.use (by assumption) ?_); (try dsimp only))))
          w_strict (k_steps)
          (all_goals (repeat ((with_reducible refine OQ.use (by assumption) ?_); (try dsimp only))))
          refine Stop.mk ?_
          refine opk (fun K9 hK9 => ?_)
          k_dflt (refine' KBa.make_K ?kbaF129 ?kbaN129 ?kbah129 ?kbal129 ?kbai129 ?kbar129 ?kban129 ?_)
          case kbaF129 => k_asm
          case kbaN129 => k_asm
          case kbah129 => rfl
          case kbal129 => kba_isList
          case kbai129 => kba_listInts
          case kbar129 => (unfold KBa.In; repeat (first | exact List.forall_mem_nil _ | (refine List.forall_mem_cons.mpr ⟨?_, ?_⟩; (first | exact bit255 _ | (dsimp only; omega) | omega))))
          case kban129 => kba_size
          intro h' t' k' F' N' hIn
          (all_goals (repeat ((with_reducible refine OQ.use (by assumption) ?_); (try dsimp only))))
          w_strict (k_steps)
          (all_goals (repeat ((with_reducible refine OQ.use (by assumption) ?_); (try dsimp only))))
          rename KBa.In _ => hIn
          refine cutv_set (by k_asm) (news_sub (by k_asm) (fun q hq => by repeat (first | exact hq | refine List.mem_cons_of_mem _ ?_))) (.inr ⟨by omega, _, _, rfl, (KBa.ints_make hIn).trans ?_⟩)
          exact tag_ints k pr vl (d2 == 0) c1 c2.1 c2.2 c3.1 c3.2
        · (all_goals (repeat ((with_reducible refine OQ.use (by assumption) ?_); (try dsimp only))))
          w_strict (k_steps)
          (all_goals (repeat ((with_reducible refine OQ.use (by assumption) ?_); (try dsimp only))))
          exact cutv_skip (by k_asm) (news_sub (by k_asm) (fun q hq => by repeat (first | exact hq | refine List.mem_cons_of_mem _ ?_))) rfl (.inl ⟨by omega, _, rfl⟩)
      · (all_goals (repeat ((with_reducible refine OQ.use (by assumption) ?_); (try dsimp only))))
        w_strict (k_steps)
        (all_goals (repeat ((with_reducible refine OQ.use (by assumption) ?_); (try dsimp only))))
        exact cutv_skip (by k_asm) (news_sub (by k_asm) (fun q hq => by repeat (first | exact hq | refine List.mem_cons_of_mem _ ?_))) rfl (.inl ⟨by omega, _, rfl⟩)
    · (all_goals (repeat ((with_reducible refine OQ.use (by assumption) ?_); (try dsimp only))))
      w_strict (k_steps)
      (all_goals (repeat ((with_reducible refine OQ.use (by assumption) ?_); (try dsimp only))))
      exact cutv_skip (by k_asm) (news_sub (by k_asm) (fun q hq => by repeat (first | exact hq | refine List.mem_cons_of_mem _ ?_))) rfl (.inl ⟨by omega, _, rfl⟩)
  case cutB1 =>
  intro v h' tk' F' N' hv
  (all_goals (repeat ((with_reducible refine OQ.use (by assumption) ?_); (try dsimp only))))
  w_strict (k_steps)
  (all_goals (repeat ((with_reducible refine OQ.use (by assumption) ?_); (try dsimp only))))
  refine Stop.mk ?_
  refine opk (fun K9 hK9 => ?_)
  k_dflt (refine' lam_any2 (P := 347) (by k_asm) (news_pull (by k_asm) (by repeat (first | exact Pull.head _ | apply Pull.tail))) (by assumption) (CodeHd.keeps CH (Below.stays (by assumption))) rfl ?off130 (by repeat (first | exact Split.nil | apply Split.cons)) TG rfl rfl ?hret130)
  case off130 => ((repeat (first | (with_reducible assumption) | (with_reducible refine offc ?_ ?_; k_ne) | (with_reducible refine List.forall_mem_cons.mpr ⟨?_, ?_⟩; k_ne))))
  intro f1 c1 pm ctv h' tk' ps ex1 F' N' TG1 R1 E1 G1
  (try k_sweep)
  dsimp only [AllLt] at G1
  dsimp only [List.cons_append, List.nil_append] at N' R1
  (try dsimp only)
  (all_goals (repeat ((with_reducible refine OQ.use (by assumption) ?_); (try dsimp only))))
  w_strict (k_steps)
  (all_goals (repeat ((with_reducible refine OQ.use (by assumption) ?_); (try dsimp only))))
  refine Stop.mk ?_
  refine opk (fun K9 hK9 => ?_)
  k_dflt (refine' conT_step (heardK_size (BadT k pr vl) (fun r => ¬ BadT k pr vl ∧ IsB r (tagB k pr (d2 == 0) vl)) (dn := 100) (un' := 1000) XB TB ?pull131 ?CL1) (by assumption) XB TB (by k_asm) (by k_asm) (by assumption) (by assumption) rfl rfl rfl ?hd131 ?hu131 ?hesc131 ?CR1)
  case pull131 => k_mem
  case hd131 => (dsimp only; first | exact dstep1 hdp rfl | exact dstep hdp rfl | omega)
  case hu131 => (dsimp only; first | exact dstep hun rfl | exact dstep1 hun rfl | omega)
  case hesc131 => exact fun _ _ _ _ q _ => q.elim
  case CL1 =>
    refine' con_lamQ XB TB (by k_mem) (R1.mono (fun q hq => .tail _ (.tail _ hq))) rfl (locs rfl) (by decide) ?_ (by decide) rfl rfl rfl
    intro dp un gd l sh9 sg9 sd9 sk9 so9 g L' h' Q1 E1 hdp hun AN F' N' l1 B' D' X' T' TT hQ1 hE1
    (try dsimp only)
    (try k_fold)
    (all_goals (repeat ((with_reducible refine OQ.use (by assumption) ?_); (try dsimp only))))
    w_strict (k_steps)
    (all_goals (repeat ((with_reducible refine OQ.use (by assumption) ?_); (try dsimp only))))
    refine Stop.mk ?_
    refine opk (fun K9 hK9 => ?_)
    k_dflt (refine' con_step (tag_con XB TB _ _ _ _) (by assumption) (by k_asm) (by k_asm) (by assumption) rfl rfl rfl ?hd133 ?hu133 ?hesc133 ?hret133)
    case hd133 => (dsimp only; first | exact dstep1 hdp rfl | exact dstep hdp rfl | omega)
    case hu133 => (dsimp only; first | exact dstep hun rfl | exact dstep1 hun rfl | omega)
    case hesc133 => exact fun _ _ _ _ q _ => q.elim
    intro r9 h' tk' news' F' N' P9
    (try k_sweep)
    (try dsimp only)
    obtain ⟨z, dx, t1, t2, t3, t4, rfl, rfl, lo1, lo2⟩ := P9
    (all_goals (repeat ((with_reducible refine OQ.use (by assumption) ?_); (try dsimp only))))
    w_strict (k_steps)
    (all_goals (repeat ((with_reducible refine OQ.use (by assumption) ?_); (try dsimp only))))
    refine Stop.mk ?_
    refine opk (fun K9 hK9 => ?_)
    k_dflt (refine' con_step (packtag_any XB TB _ _ k pr vl (d2 == 0) _ _ _ _ _ _ _) (by assumption) (by k_asm) (by k_asm) (by assumption) rfl rfl rfl ?hd134 ?hu134 ?hesc134 ?hret134)
    case hd134 => (dsimp only; first | exact dstep1 hdp rfl | exact dstep hdp rfl | omega)
    case hu134 => (dsimp only; first | exact dstep hun rfl | exact dstep1 hun rfl | omega)
    case hesc134 =>
      refine con_pass2 (by first | exact fun _ _ x => x | (rename EQ9 _ _ => hE9; exact EQ9.pass hE9)) (by assumption) (by k_asm) (by k_asm) (by assumption) rfl ?sub134 rfl rfl ?pe134
      case sub134 => intro _ hq; repeat (first | exact hq | refine List.mem_cons_of_mem _ ?_)
      case pe134 => first | exact fun _ x => x | exact fun _ x => ⟨trivial, x⟩
    intro r9 h' tk' news' F' N' P9
    (try k_sweep)
    (try dsimp only)
    obtain ⟨rfl, P9⟩ := P9
    (all_goals (repeat ((with_reducible refine OQ.use (by assumption) ?_); (try dsimp only))))
    w_strict (k_steps)
    (all_goals (repeat ((with_reducible refine OQ.use (by assumption) ?_); (try dsimp only))))
    refine end_c (by k_asm) ?keepN TT ⟨rfl, by assumption⟩
    case keepN => exact news_sub (by k_asm) (fun q hq => by repeat (first | exact hq | refine List.mem_cons_of_mem _ ?_))
  case CR1 =>
    clear B' D' X' T' TT F' N'
    intro r gk' h' tk' news' F' N' B' D' TT X' T' P9
    obtain ⟨rfl, P9⟩ := P9
    (try dsimp only)
    (all_goals (repeat ((with_reducible refine OQ.use (by assumption) ?_); (try dsimp only))))
    w_strict (k_steps)
    (all_goals (repeat ((with_reducible refine OQ.use (by assumption) ?_); (try dsimp only))))
    (all_goals (repeat ((with_reducible refine OQ.use (by assumption) ?_); (try dsimp only))))
    k_dflt (refine same_ne ?_ ?_)
    · rcases hv with ⟨hb, t1, rfl⟩ | ⟨hb, hv⟩ <;> rcases P9 with ⟨hc, P9⟩ | ⟨hc, t2, rfl⟩
      · exact absurd hb hc
      · exact .inl ⟨_, _, _, rfl, rfl⟩
      · exact .inr ⟨_, P9, hv⟩
      · exact absurd hc hb
    have ho1 : ∀ p ∈ ex1 ++ news, p.1 ≠ sa := off_app (fun q hq => (E1 q hq).1.2 (sa, _) (by k_mem)) hoff
    have hc1 : ∀ p ∈ ex1 ++ news, p.1 ≠ L' + 1 := off_app (fun q hq => (E1 q hq).1.2 (L' + 1, _) (by k_mem)) (all_of_lt hnL (by first | exact Nat.le_add_right _ 1 | exact Nat.le_add_right _ 2 | exact Nat.le_add_right _ 3 | exact Nat.le_add_right _ 4 | exact Nat.le_add_right _ 5))
    have hp1 : ∀ p ∈ ex1 ++ news, p.1 ≠ 347 := off_app (fun q hq => (E1 q hq).1.1) hofP
    (all_goals (repeat ((with_reducible refine OQ.use (by assumption) ?_); (try dsimp only))))
    w_strict (k_steps)
    (all_goals (repeat ((with_reducible refine OQ.use (by assumption) ?_); (try dsimp only))))
    refine Stop.mk ?_
    refine opk (fun K9 hK9 => ?_)
    k_dflt (refine' take_k XB TB (by assumption) (by k_asm) (by k_asm) (by repeat (first | exact Pull.head _ | apply Pull.tail)) (by assumption) rfl rfl rfl ?hd137 ?hu137 ?hs ?h0137 ?h1137 ?off137 ?hret137)
    case hs => assumption
    case h0137 => first | decide | omega
    case h1137 => first | decide | omega
    case hd137 => (dsimp only; first | exact dstep1 hdp rfl | exact dstep hdp rfl | omega)
    case hu137 => (dsimp only; first | exact dstep hun rfl | exact dstep1 hun rfl | omega)
    case off137 => ((repeat (first | (with_reducible assumption) | (with_reducible refine offc ?_ ?_; k_ne) | (with_reducible refine List.forall_mem_cons.mpr ⟨?_, ?_⟩; k_ne))))
    intro mac td so h' tk' hlomac hhimac hs F' N'
    (try k_sweep)
    (try dsimp only)
    (all_goals (repeat ((with_reducible refine OQ.use (by assumption) ?_); (try dsimp only))))
    w_strict (k_steps)
    (all_goals (repeat ((with_reducible refine OQ.use (by assumption) ?_); (try dsimp only))))
    refine Stop.mk ?_
    refine opk (fun K9 hK9 => ?_)
    k_dflt (refine' one_p (fun k => (k < 0 ∨ 281474976710656 ≤ k)) XB TB ?hv (by assumption) (by k_asm) (by k_asm) (by repeat (first | exact Pull.head _ | apply Pull.tail)) (by repeat (first | exact Pull.head _ | apply Pull.tail)) (by assumption) rfl rfl rfl ?hd138 ?hu138 ?hs rfl rfl ?off138 ?ol138 ?hret138)
    case hv => rfl
    case hs => assumption
    case ol138 => first | k_ne
    case hd138 => (dsimp only; first | exact dstep1 hdp rfl | exact dstep hdp rfl | omega)
    case hu138 => (dsimp only; first | exact dstep hun rfl | exact dstep1 hun rfl | omega)
    case off138 => ((repeat (first | (with_reducible assumption) | (with_reducible refine offc ?_ ?_; k_ne) | (with_reducible refine List.forall_mem_cons.mpr ⟨?_, ?_⟩; k_ne))))
    intro odd tk4 so h' tk' hod hs F' N'
    (try k_sweep)
    (try dsimp only)
    (all_goals (repeat ((with_reducible refine OQ.use (by assumption) ?_); (try dsimp only))))
    w_strict (k_steps)
    (all_goals (repeat ((with_reducible refine OQ.use (by assumption) ?_); (try dsimp only))))
    refine Stop.mk ?_
    refine opk (fun K9 hK9 => ?_)
    k_dflt (refine' one_m XB TB (by assumption) (by k_asm) (by k_asm) (by repeat (first | exact Pull.head _ | apply Pull.tail)) (by repeat (first | exact Pull.head _ | apply Pull.tail)) (by assumption) rfl rfl rfl ?hd139 ?hu139 ?hs rfl rfl ?off139 ?ol139 ?hret139)
    case hs => assumption
    case ol139 => first | k_ne
    case hd139 => (dsimp only; first | exact dstep1 hdp rfl | exact dstep hdp rfl | omega)
    case hu139 => (dsimp only; first | exact dstep hun rfl | exact dstep1 hun rfl | omega)
    case off139 => ((repeat (first | (with_reducible assumption) | (with_reducible refine offc ?_ ?_; k_ne) | (with_reducible refine List.forall_mem_cons.mpr ⟨?_, ?_⟩; k_ne))))
    intro r9 so h' tk' hr9 hs F' N'
    (try k_sweep)
    (try dsimp only)
    obtain ⟨ea, x, y, tx, ty, n9, rfl, hbad, hK, N9⟩ := pick3 (fun a => @LT.lt Nat _ (L' + 5) a) N' (by k_mem) (by k_mem) (by k_mem) hr9 (by first | decide | omega) (by first | decide | omega) (by first | decide | omega) hod hlomac hhimac
    clear N' hr9
    rcases news_thin N9 (Thin.keep (by repeat (first | apply Thin.dropL | apply Thin.dropT | apply Thin.keep | exact Thin.nil _))) with N'
    clear N9
    (all_goals (repeat ((with_reducible refine OQ.use (by assumption) ?_); (try dsimp only))))
    w_strict (k_steps)
    (all_goals (repeat ((with_reducible refine OQ.use (by assumption) ?_); (try dsimp only))))
    refine Stop.mk ?_
    refine opk (fun K9 hK9 => ?_)
    k_dflt (refine' lam_any2 (P := 347) (by k_asm) (news_pull (by k_asm) (by repeat (first | exact Pull.head _ | apply Pull.tail))) (by assumption) (CodeHd.keeps CH (Below.stays (by assumption))) rfl ?off140 (by repeat (first | exact Split.nil | apply Split.cons)) TG1 rfl rfl ?hret140)
    case off140 => ((repeat (first | (with_reducible assumption) | (with_reducible refine offc ?_ ?_; k_ne) | (with_reducible refine List.forall_mem_cons.mpr ⟨?_, ?_⟩; k_ne))))
    intro f2 c2 pm ctv h' tk' ps ex2 F' N' TG2 R2 E2 G2
    (try k_sweep)
    dsimp only [AllLt] at G2
    dsimp only [List.cons_append, List.nil_append] at N' R2
    (try dsimp only)
    (all_goals (repeat ((with_reducible refine OQ.use (by assumption) ?_); (try dsimp only))))
    w_strict (k_steps)
    (all_goals (repeat ((with_reducible refine OQ.use (by assumption) ?_); (try dsimp only))))
    refine Stop.mk ?_
    refine opk (fun K9 hK9 => ?_)
    k_dflt (refine' conT_step (heardK_size True (fun _ => False) (dn := 100) (un' := 1000) XB TB ?pull141 ?CL2) (by assumption) XB TB (by k_asm) (by k_asm) (by assumption) (by assumption) rfl rfl rfl ?hd141 ?hu141 ?hesc141 ?CR2)
    case pull141 => k_mem
    case hd141 => (dsimp only; first | exact dstep1 hdp rfl | exact dstep hdp rfl | omega)
    case hu141 => (dsimp only; first | exact dstep hun rfl | exact dstep1 hun rfl | omega)
    case hesc141 => exact fun _ _ _ _ q _ => q.elim
    case CL2 =>
      refine' con_lamQ XB TB (by k_mem) (R2.mono (fun q hq => .tail _ (.tail _ hq))) rfl (locs rfl) (by decide) ?_ (by decide) rfl rfl rfl
      intro dp un gd l sh9 sg9 sd9 sk9 so9 g L' h' Q1 E1 hdp hun AN F' N' l1 B' D' X' T' TT hQ1 hE1
      (try dsimp only)
      (try k_fold)
      (all_goals (repeat ((with_reducible refine OQ.use (by assumption) ?_); (try dsimp only))))
      w_strict (k_steps)
      (all_goals (repeat ((with_reducible refine OQ.use (by assumption) ?_); (try dsimp only))))
      refine Stop.mk ?_
      refine opk (fun K9 hK9 => ?_)
      k_dflt (refine' con_step (frame_con XB TB _ _ _ _ _ _ _ _) (by assumption) (by k_asm) (news_dup1 (by k_asm) (by k_mem)) (by assumption) rfl rfl rfl ?hd143 ?hu143 ?hesc143 ?hret143)
      case hd143 => (dsimp only; first | exact dstep1 hdp rfl | exact dstep hdp rfl | omega)
      case hu143 => (dsimp only; first | exact dstep hun rfl | exact dstep1 hun rfl | omega)
      case hesc143 => exact fun _ _ _ _ q _ => q.elim
      intro r9 h' tk' news' F' N' P9
      (try k_sweep)
      (try dsimp only)
      obtain ⟨z, dx, t1, t2, t3, t4, t5, tb', rfl, rfl, lo1, lo2, lo3⟩ := P9
      (all_goals (repeat ((with_reducible refine OQ.use (by assumption) ?_); (try dsimp only))))
      w_strict (k_steps)
      (all_goals (repeat ((with_reducible refine OQ.use (by assumption) ?_); (try dsimp only))))
      refine Stop.mk ?_
      refine opk (fun K9 hK9 => ?_)
      k_dflt (refine' con_step (packframe_bad XB TB _ _ _ _ x y _ _ _ _ _ _ _ _ _ hbad) (by assumption) (by k_asm) (by k_asm) (by assumption) rfl rfl rfl ?hd144 ?hu144 ?hesc144 ?hret144)
      case hd144 => (dsimp only; first | exact dstep1 hdp rfl | exact dstep hdp rfl | omega)
      case hu144 => (dsimp only; first | exact dstep hun rfl | exact dstep1 hun rfl | omega)
      case hesc144 =>
        refine con_pass2 (by first | exact fun _ _ x => x | (rename EQ9 _ _ => hE9; exact EQ9.pass hE9)) (by assumption) (by k_asm) (by k_asm) (by assumption) rfl ?sub144 rfl rfl ?pe144
        case sub144 => intro _ hq; repeat (first | exact hq | refine List.mem_cons_of_mem _ ?_)
        case pe144 => first | exact fun _ x => x | exact fun _ x => ⟨trivial, x⟩
      intro r9 h' tk' news' F' N' P9
      (try k_sweep)
      (try dsimp only)
      exact P9.elim
    case CR2 =>
      clear B' D' X' T' TT F' N'
      intro r gk' h' tk' news' F' N' B' D' TT X' T' P9
      obtain ⟨rfl, P9⟩ := P9
      (try dsimp only)
      obtain ⟨_, tk5, rfl⟩ : True ∧ ∃ tk, r = .str "size" tk := P9.resolve_left (fun q => q)
      (all_goals (repeat ((with_reducible refine OQ.use (by assumption) ?_); (try dsimp only))))
      w_strict (k_steps)
      (all_goals (repeat ((with_reducible refine OQ.use (by assumption) ?_); (try dsimp only))))
      (try dsimp only)
      (all_goals (repeat ((with_reducible refine OQ.use (by assumption) ?_); (try dsimp only))))
      refine endT_c (by k_asm) ?endN TT ⟨so, ps, ex2 ++ ex1, rfl, hs, by rw [List.append_assoc]; exact TG2, rfl, ?endL⟩
      case endN =>
        rw [List.append_assoc]
        exact news_sub (by k_asm) (List.forall_mem_cons.mpr ⟨by k_mem, List.forall_mem_cons.mpr ⟨by k_mem, fun q hq => by repeat (first | exact hq | refine List.mem_cons_of_mem _ ?_)⟩⟩)
      case endL =>
        intro q hq
        rcases List.mem_append.mp hq with h | h
        · exact ⟨(E2 q h).1.2 (sa, _) (by k_mem), fun z hz => (E2 q h).1.2 z (by repeat (first | exact List.mem_append_right _ hz | refine List.mem_cons_of_mem _ ?_))⟩
        · exact ⟨(E1 q h).1.2 (sa, _) (by k_mem), fun z hz => (E1 q h).1.2 z (by repeat (first | exact hz | refine List.mem_cons_of_mem _ ?_))⟩
end
local macro_rules | `(tactic| walk_at "CompSrc") => `(tactic| (k_here; k_dflt (refine LCg.CompSrc.range (by rfl) (by k_asm) (by k_asm) (by assumption) (by first | decide | rfl) (by first | rfl | decide) (by first | size_fits | exact Nat.le_of_ble_eq_true rfl) ?_; intro g'; lcg_lit)))
local macro_rules | `(tactic| walk_at "binaryOp Pow int int") => `(tactic| (k_here; k_dflt (refine pow48 ?_)))
section
variable {w : World} {p : Program} {loose : List Str} {mean : ExcName → Option Value} {mg mb : Str → Option Value} {base : Heap} {news : List (Addr × Obj)}
theorem tuple_walk {prog : Program} {A : Around} {E : Value → Shared → Prop} {s : Shared} {h₀ : Heap} {L la : Addr} {m : Str → Option Value} {vs : List Value} {n : Nat} {Q : Value → Shared → Prop} (F : Fr h₀ L s.heap m) (N : News h₀ L s.heap news) (hm : (la, listOf vs.toArray n) ∈ news) (hz : vs.length ≤ 100)
    (h : ∀ D h', Fr h₀ L h' m → News h₀ L h' ((D, (⟨Value.type "tuple", none, Data.seq vs.toArray 0, #[]⟩ : Obj)) :: news) → (∀ p ∈ news, p.1 < D) → Q (.ref D) { s with heap := h' }) : wpAny (model prog w) A (call (.type "tuple") [.ref la]) Q E s :=
  kde_tupleOf F N (News.isList N hm) (by simp; omega) (by simp) h
local macro_rules | `(tactic| walk_at "call type:tuple") => `(tactic| (k_here; (with_reducible show wpAny _ _ (call (Value.type "tuple") [Value.ref _]) _ _ _); k_dflt (refine tuple_walk (by k_asm) (by k_asm) (by k_mem) (by assumption) ?_); intro D' h' F' N' lD'; k_lt lD'; (try dsimp only)))
inductive Pframe_conL (w : World) (news : List (Addr × Obj)) (x : Value) (y : Value) (kd : Value) (la : Addr) (vs : List Value) (n : Nat) (b : Array UInt8) (r : Value) (news' : List (Addr × Obj)) : Prop
  | mk (z dx ta t1 t2 t3 t4 t5 tb') (f1 : r = .ref z) (f2 : news' = (ta, ⟨Value.type "tuple", none, Data.seq vs.toArray 0, #[]⟩) :: (z, instObj 264 dx) :: (dx, frameD w x y (.ref ta) kd (.bytes b tb') t1 t2 t3 t4 t5) :: (la, listOf vs.toArray n) :: news) (f3 : (∀ p ∈ news, p.1 < dx)) (f4 : la < dx) (f5 : dx < z) (f6 : z < ta)
theorem frame_conL (XB : (Lw.head.heap_1 w.params).In base) (TB : Top p loose mean mg mb base) (x y kd : Value) (la : Addr) (vs : List Value) (n : Nat) (b : Array UInt8) (tb : Tok) (hz : vs.length ≤ 100) :
    Con w base 20 100 264 [x, y, .ref la, kd, .bytes b tb] ((la, listOf vs.toArray n) :: news) (Pframe_conL w news x y kd la vs n b) (fun _ => False) := by
  w_on
  k_dflt (refine' con_classQ (fI := 248) (binds := fun z => [(Str.ofString "self", .ref z), (Str.ofString "target", x), (Str.ofString "source", y), (Str.ofString "tags", .ref la), (Str.ofString "kind", kd), (Str.ofString "payload", .bytes b tb)]) XB TB ?m ?i ?f ?ho ?hcd ?hb ?hl ?hn ?_ ?c1 ?c2 ?c3 ?c4)
  case m => k_is
  case i => k_is
  case f => k_is
  case ho => k_is
  case hcd => k_is
  case hb => intro _ _ _; exact BindsTo.of_eq rfl
  case hl => intro x; exact locs rfl
  case hn => first | decide | omega
  case c1 => decide
  case c2 => rfl
  case c3 => rfl
  case c4 => rfl
  intro dp un gd l sh9 sg9 sd9 sk9 so9 g L' h' x' d' Q1 E1 hdp hun AN F' N' l1 l2 l3 B' D' X' T' TT hQ1 hE1
  (try k_lt2 l2)
  (try k_lt2 l3)
  (try dsimp only)
  (try k_fold)
  have l0 : ∀ p ∈ news, p.1 < d' := fun p hp => l1 p (List.mem_cons_of_mem _ hp)
  k_lt l1
  (all_goals (repeat ((with_reducible refine OQ.use (by assumption) ?_); (try dsimp only))))
  w_strict (k_steps)
  (all_goals (repeat ((with_reducible refine OQ.use (by assumption) ?_); (try dsimp only))))
  rename x' < _ ∧ _ => lD
  (all_goals (repeat ((with_reducible refine OQ.use (by assumption) ?_); (try dsimp only))))
  exact end_c (by k_asm) (by k_asm) TT ⟨rfl, _, _, _, _, _, _, _, _, _, rfl, rfl, l0, l1.1, l2, lD.1⟩
end
section
variable {w : World} {p : Program} {loose : List Str} {mean : ExcName → Option Value} {mg mb : Str → Option Value} {base : Heap} {news : List (Addr × Obj)}
theorem news_pull3 {g h : Heap} {L : Addr} {l l1 l2 l3 : List (Addr × Obj)} {q1 q2 q3 : Addr × Obj} (N : News g L h l) (P1 : Pull q3 l l1) (P2 : Pull q2 l1 l2) (P3 : Pull q1 l2 l3) : News g L h (q1 :: q2 :: q3 :: l3) := news_sub N fun p hp => by
  rcases List.mem_cons.mp hp with rfl | hp
  · exact P1.sub _ (.tail _ (P2.sub _ (.tail _ (P3.sub _ (.head _)))))
  · rcases List.mem_cons.mp hp with rfl | hp
    · exact P1.sub _ (.tail _ (P2.sub _ (.head _)))
    · rcases List.mem_cons.mp hp with rfl | hp
      · exact P1.sub _ (.head _)
      · exact P1.sub _ (.tail _ (P2.sub _ (.tail _ (P3.sub _ (.tail _ hp)))))
theorem news_endF {g h : Heap} {L : Addr} {l t : List (Addr × Obj)} {a b c d e k : Addr × Obj} (N : News g L h (a :: b :: c :: d :: e :: (t ++ (k :: l)))) : News g L h (e :: ((a :: b :: c :: t) ++ l)) := news_sub N (by
  intro p hp
  simp only [List.cons_append, List.mem_cons, List.mem_append] at hp ⊢
  rcases hp with h | h | h | h | h | h <;> simp [h])
def After (sa : Addr) (news : List (Addr × Obj)) (d : Addr) : Prop := sa < d ∧ ∀ z ∈ news, z.1 < d
theorem After.up {sa d e : Addr} {news : List (Addr × Obj)} (h : After sa news d) (l : d < e) : After sa news e := ⟨Nat.lt_trans h.1 l, fun z hz => Nat.lt_trans (h.2 z hz) l⟩
inductive Plawframe (w : World) (news : List (Addr × Obj)) (sa : Addr) (b : Array UInt8) (r : Value) (news' : List (Addr × Obj)) : Prop
  | mk (a so' ex x ps kd ln) (f1 : r = .ref a) (f2 : Src so') (f3 : news' = (sa, so') :: (ex ++ news)) (f4 : FrameIn w ex a x 9 ps kd b) (f5 : KindV kd ln) (f6 : TagsOk ps) (f7 : ps.length ≤ 2) (f8 : 0 ≤ x) (f9 : x < 281474976710656) (f10 : ∀ q ∈ ex, sa < q.1 ∧ ∀ z ∈ news, z.1 < q.1)
theorem lawframe (XB : (Lw.head.heap_1 w.params).In base) (TB : Top p loose mean mg mb base) (sa : Addr) (so : Obj) (b : Array UInt8) (tb : Tok) (hs : Src so) (hoff : ∀ p ∈ news, p.1 ≠ sa) :
    Con w base 100 1500 357 [.ref sa, .bytes b tb] ((sa, so) :: news) (Plawframe w news sa b) (fun _ => False) := by
  w_on
  k_dflt (refine' con_defCQ (binds := [(Str.ofString "source", .ref sa), (Str.ofString "payload", .bytes b tb)]) XB TB ?ho ?hcd ?hb ?hl ?hnd ?hn ?_ ?c2 ?c3 ?c4)
  case ho => k_is
  case hcd => k_is
  case hb => intro _ _; first | exact BindsTo.of_eq rfl | exact binds_K (by assumption) rfl (by k_is) rfl rfl rfl
  case hl => exact rfl
  case hnd => decide +kernel
  case hn => first | decide | omega
  case c2 => rfl
  case c3 => rfl
  case c4 => rfl
  intro dp un gd l sh9 sg9 sd9 sk9 so9 g L' h' tk' cells' Q1 E1 hdp hun AN F' N' Y' l1 B' D' X' T' TT hQ1 hE1
  revert N'
  first | (k_dflt (refine cells1 (G := fun cc9 => News _ _ _ (cc9 ++ _) → _) Y' ?_); intro oc1 dc1) | (k_dflt (refine cells2 (G := fun cc9 => News _ _ _ (cc9 ++ _) → _) Y' ?_); intro oc1 oc2 dc1 dc2) | (k_dflt (refine cells3 (G := fun cc9 => News _ _ _ (cc9 ++ _) → _) Y' ?_); intro oc1 oc2 oc3 dc1 dc2 dc3) | (k_dflt (refine cells4 (G := fun cc9 => News _ _ _ (cc9 ++ _) → _) Y' ?_); intro oc1 oc2 oc3 oc4 dc1 dc2 dc3 dc4) | (k_dflt (refine cells5 (G := fun cc9 => News _ _ _ (cc9 ++ _) → _) Y' ?_); intro oc1 oc2 oc3 oc4 oc5 dc1 dc2 dc3 dc4 dc5)
  intro N'
  clear Y'
  (try dsimp only [List.cons_append, List.nil_append] at N')
  (try dsimp only)
  (try k_fold)
  have hsaL : @LT.lt Nat _ sa L' := l1 _ (.head _)
  have hnL : ∀ p ∈ news, p.1 < L' := fun p hp => l1 p (List.mem_cons_of_mem _ hp)
  (all_goals (repeat ((with_reducible refine OQ.use (by assumption) ?_); (try dsimp only))))
  w_strict (k_steps)
  (all_goals (repeat ((with_reducible refine OQ.use (by assumption) ?_); (try dsimp only))))
  refine Stop.mk ?_
  refine opk (fun K9 hK9 => ?_)
  k_dflt (refine' take_k XB TB (by assumption) (by k_asm) (by k_asm) (by repeat (first | exact Pull.head _ | apply Pull.tail)) (by assumption) rfl rfl rfl ?hd149 ?hu149 ?hs ?h0149 ?h1149 ?off149 ?hret149)
  case hs => assumption
  case h0149 => first | decide | omega
  case h1149 => first | decide | omega
  case hd149 => (dsimp only; first | exact dstep1 hdp rfl | exact dstep hdp rfl | omega)
  case hu149 => (dsimp only; first | exact dstep hun rfl | exact dstep1 hun rfl | omega)
  case off149 => ((repeat (first | (with_reducible assumption) | (with_reducible refine offc ?_ ?_; k_ne) | (with_reducible refine List.forall_mem_cons.mpr ⟨?_, ?_⟩; k_ne))))
  intro n td so h' tk' hlon hhin hs F' N'
  (try k_sweep)
  (try dsimp only)
  obtain rfl | rfl | rfl : n = 0 ∨ n = 1 ∨ n = 2 := by omega
  · (all_goals (repeat ((with_reducible refine OQ.use (by assumption) ?_); (try dsimp only))))
    w_strict (k_steps)
    (all_goals (repeat ((with_reducible refine OQ.use (by assumption) ?_); (try dsimp only))))
    refine Stop.mk ?_
    refine opk (fun K9 hK9 => ?_)
    k_dflt (refine' take_k XB TB (by assumption) (by k_asm) (by k_asm) (by repeat (first | exact Pull.head _ | apply Pull.tail)) (by assumption) rfl rfl rfl ?hd150 ?hu150 ?hs ?h0150 ?h1150 ?off150 ?hret150)
    case hs => assumption
    case h0150 => first | decide | omega
    case h1150 => first | decide | omega
    case hd150 => (dsimp only; first | exact dstep1 hdp rfl | exact dstep hdp rfl | omega)
    case hu150 => (dsimp only; first | exact dstep hun rfl | exact dstep1 hun rfl | omega)
    case off150 => ((repeat (first | (with_reducible assumption) | (with_reducible refine offc ?_ ?_; k_ne) | (with_reducible refine List.forall_mem_cons.mpr ⟨?_, ?_⟩; k_ne))))
    intro mac td so h' tk' hlomac hhimac hs F' N'
    (try k_sweep)
    (try dsimp only)
    (all_goals (repeat ((with_reducible refine OQ.use (by assumption) ?_); (try dsimp only))))
    w_strict (k_steps)
    (all_goals (repeat ((with_reducible refine OQ.use (by assumption) ?_); (try dsimp only))))
    refine Stop.mk ?_
    refine opk (fun K9 hK9 => ?_)
    k_dflt (refine' one_m XB TB (by assumption) (by k_asm) (by k_asm) (by repeat (first | exact Pull.head _ | apply Pull.tail)) (by repeat (first | exact Pull.head _ | apply Pull.tail)) (by assumption) rfl rfl rfl ?hd151 ?hu151 ?hs rfl rfl ?off151 ?ol151 ?hret151)
    case hs => assumption
    case ol151 => first | k_ne
    case hd151 => (dsimp only; first | exact dstep1 hdp rfl | exact dstep hdp rfl | omega)
    case hu151 => (dsimp only; first | exact dstep hun rfl | exact dstep1 hun rfl | omega)
    case off151 => ((repeat (first | (with_reducible assumption) | (with_reducible refine offc ?_ ?_; k_ne) | (with_reducible refine List.forall_mem_cons.mpr ⟨?_, ?_⟩; k_ne))))
    intro r9 so h' tk' hr9 hs F' N'
    (try k_sweep)
    (try dsimp only)
    obtain ⟨ln, hk⟩ : ∃ ln, KindV r9 ln := by
      simp only [List.mem_cons, List.not_mem_nil, or_false] at hr9
      rcases hr9 with h | h
      · exact ⟨true, h⟩
      · exact ⟨false, _, h⟩
    clear hr9
    (all_goals (repeat ((with_reducible refine OQ.use (by assumption) ?_); (try dsimp only))))
    w_strict (k_steps)
    (all_goals (repeat ((with_reducible refine OQ.use (by assumption) ?_); (try dsimp only))))
    refine Stop.mk ?_
    refine opk (fun K9 hK9 => ?_)
    k_dflt (refine' con_step (frame_conL XB TB _ _ r9 _ [] _ _ _ (by simp)) (by assumption) (by k_asm) (news_pull (by k_asm) (by repeat (first | exact Pull.head _ | apply Pull.tail))) (by assumption) rfl rfl rfl ?hd152 ?hu152 ?hesc152 ?hret152)
    case hd152 => (dsimp only; first | exact dstep1 hdp rfl | exact dstep hdp rfl | omega)
    case hu152 => (dsimp only; first | exact dstep hun rfl | exact dstep1 hun rfl | omega)
    case hesc152 => exact fun _ _ _ _ q _ => q.elim
    intro r9 h' tk' news' F' N' P9
    (try k_sweep)
    (try dsimp only)
    obtain ⟨z, dx, ta, t1, t2, t3, t4, t5, tb', rfl, rfl, lo1, lo2, lo3, lo4⟩ := P9
    have hf : After sa news dx := ⟨lo1 (sa, _) (by k_mem), (fun p hp => lo1 p (by repeat (first | exact hp | refine List.mem_cons_of_mem _ ?_)))⟩
    (all_goals (repeat ((with_reducible refine OQ.use (by assumption) ?_); (try dsimp only))))
    refine end_c (by k_asm) (news_endF (t := []) N') TT ⟨z, so, _, mac, [], r9, ln, rfl, hs, rfl, ⟨dx, ta, [], 0, _, _, _, _, _, _, _, _, .tail _ (.head _), .tail _ (.tail _ (.head _)), .head _, .nil⟩, hk, List.forall_mem_nil _, by simp, hlomac, hhimac, ?addr1⟩
    exact List.forall_mem_cons.mpr ⟨(hf.up lo3).up lo4, List.forall_mem_cons.mpr ⟨hf.up lo3, List.forall_mem_cons.mpr ⟨hf, List.forall_mem_nil _⟩⟩⟩
  · (all_goals (repeat ((with_reducible refine OQ.use (by assumption) ?_); (try dsimp only))))
    w_strict (k_steps)
    (all_goals (repeat ((with_reducible refine OQ.use (by assumption) ?_); (try dsimp only))))
    refine Stop.mk ?_
    refine opk (fun K9 hK9 => ?_)
    k_dflt (refine' take_k XB TB (by assumption) (by k_asm) (by k_asm) (by repeat (first | exact Pull.head _ | apply Pull.tail)) (by assumption) rfl rfl rfl ?hd153 ?hu153 ?hs ?h0153 ?h1153 ?off153 ?hret153)
    case hs => assumption
    case h0153 => first | decide | omega
    case h1153 => first | decide | omega
    case hd153 => (dsimp only; first | exact dstep1 hdp rfl | exact dstep hdp rfl | omega)
    case hu153 => (dsimp only; first | exact dstep hun rfl | exact dstep1 hun rfl | omega)
    case off153 => ((repeat (first | (with_reducible assumption) | (with_reducible refine offc ?_ ?_; k_ne) | (with_reducible refine List.forall_mem_cons.mpr ⟨?_, ?_⟩; k_ne))))
    intro p1 td so h' tk' hlop1 hhip1 hs F' N'
    (try k_sweep)
    (try dsimp only)
    (all_goals (repeat ((with_reducible refine OQ.use (by assumption) ?_); (try dsimp only))))
    w_strict (k_steps)
    (all_goals (repeat ((with_reducible refine OQ.use (by assumption) ?_); (try dsimp only))))
    refine Stop.mk ?_
    refine opk (fun K9 hK9 => ?_)
    k_dflt (refine' take_k XB TB (by assumption) (by k_asm) (by k_asm) (by repeat (first | exact Pull.head _ | apply Pull.tail)) (by assumption) rfl rfl rfl ?hd154 ?hu154 ?hs ?h0154 ?h1154 ?off154 ?hret154)
    case hs => assumption
    case h0154 => first | decide | omega
    case h1154 => first | decide | omega
    case hd154 => (dsimp only; first | exact dstep1 hdp rfl | exact dstep hdp rfl | omega)
    case hu154 => (dsimp only; first | exact dstep hun rfl | exact dstep1 hun rfl | omega)
    case off154 => ((repeat (first | (with_reducible assumption) | (with_reducible refine offc ?_ ?_; k_ne) | (with_reducible refine List.forall_mem_cons.mpr ⟨?_, ?_⟩; k_ne))))
    intro v1 td so h' tk' hlov1 hhiv1 hs F' N'
    (try k_sweep)
    (try dsimp only)
    (all_goals (repeat ((with_reducible refine OQ.use (by assumption) ?_); (try dsimp only))))
    w_strict (k_steps)
    (all_goals (repeat ((with_reducible refine OQ.use (by assumption) ?_); (try dsimp only))))
    refine Stop.mk ?_
    refine opk (fun K9 hK9 => ?_)
    k_dflt (refine' con_step (tag_con XB TB _ _ _ _) (by assumption) (by k_asm) (by k_asm) (by assumption) rfl rfl rfl ?hd155 ?hu155 ?hesc155 ?hret155)
    case hd155 => (dsimp only; first | exact dstep1 hdp rfl | exact dstep hdp rfl | omega)
    case hu155 => (dsimp only; first | exact dstep hun rfl | exact dstep1 hun rfl | omega)
    case hesc155 => exact fun _ _ _ _ q _ => q.elim
    intro r9 h' tk' news' F' N' P9
    (try k_sweep)
    (try dsimp only)
    obtain ⟨g1, d1, ua1, ub1, uc1, ud1, rfl, rfl, lg1, ld1⟩ := P9
    have hf1 : After sa news d1 := ⟨lg1 (sa, _) (by k_mem), (fun p hp => lg1 p (by repeat (first | exact hp | refine List.mem_cons_of_mem _ ?_)))⟩
    have lg1' := allLt_of lg1
    have ld1' : @LT.lt Nat _ d1 g1 := ld1
    simp only [AllLt] at lg1'
    (all_goals (repeat ((with_reducible refine OQ.use (by assumption) ?_); (try dsimp only))))
    w_strict (k_steps)
    (all_goals (repeat ((with_reducible refine OQ.use (by assumption) ?_); (try dsimp only))))
    refine LCg.CompEnd.intro (by k_asm) (news_pull3 (by k_asm) (by repeat (first | exact Pull.head _ | apply Pull.tail)) (by repeat (first | exact Pull.head _ | apply Pull.tail)) (by repeat (first | exact Pull.head _ | apply Pull.tail))) _ (fun _ h => h) ?compoff trivial ?_
    case compoff => (repeat (refine And.intro (by first | ((rename ((_ ≠ _ ∧ _ ≠ _ ∧ _ ≠ _) ∧ _) => hO9); first | exact hO9.1 | exact hO9.2.1 | exact hO9.2.2.1 | exact hO9.2.2.2.1 | exact hO9.2.2.2.2.1 | exact hO9.2.2.2.2.2.1) | exact ⟨by k_ne, by k_ne, by k_ne⟩) ?_)); (first | assumption | exact And.right (by assumption) | exact And.right (And.right (by assumption)) | exact And.right (And.right (And.right (by assumption))) | exact And.right (And.right (And.right (And.right (by assumption)))) | (simp only [LCg.Off3, and_true]; assumption))
    (all_goals (repeat ((with_reducible refine OQ.use (by assumption) ?_); (try dsimp only))))
    w_strict (k_steps)
    (all_goals (repeat ((with_reducible refine OQ.use (by assumption) ?_); (try dsimp only))))
    refine Stop.mk ?_
    refine opk (fun K9 hK9 => ?_)
    k_dflt (refine' take_k XB TB (by assumption) (by k_asm) (by k_asm) (by repeat (first | exact Pull.head _ | apply Pull.tail)) (by assumption) rfl rfl rfl ?hd157 ?hu157 ?hs ?h0157 ?h1157 ?off157 ?hret157)
    case hs => assumption
    case h0157 => first | decide | omega
    case h1157 => first | decide | omega
    case hd157 => (dsimp only; first | exact dstep1 hdp rfl | exact dstep hdp rfl | omega)
    case hu157 => (dsimp only; first | exact dstep hun rfl | exact dstep1 hun rfl | omega)
    case off157 => ((repeat (first | (with_reducible assumption) | (with_reducible refine offc ?_ ?_; k_ne) | (with_reducible refine List.forall_mem_cons.mpr ⟨?_, ?_⟩; k_ne))))
    intro mac td so h' tk' hlomac hhimac hs F' N'
    (try k_sweep)
    (try dsimp only)
    (all_goals (repeat ((with_reducible refine OQ.use (by assumption) ?_); (try dsimp only))))
    w_strict (k_steps)
    (all_goals (repeat ((with_reducible refine OQ.use (by assumption) ?_); (try dsimp only))))
    refine Stop.mk ?_
    refine opk (fun K9 hK9 => ?_)
    k_dflt (refine' one_m XB TB (by assumption) (by k_asm) (by k_asm) (by repeat (first | exact Pull.head _ | apply Pull.tail)) (by repeat (first | exact Pull.head _ | apply Pull.tail)) (by assumption) rfl rfl rfl ?hd158 ?hu158 ?hs rfl rfl ?off158 ?ol158 ?hret158)
    case hs => assumption
    case ol158 => first | k_ne
    case hd158 => (dsimp only; first | exact dstep1 hdp rfl | exact dstep hdp rfl | omega)
    case hu158 => (dsimp only; first | exact dstep hun rfl | exact dstep1 hun rfl | omega)
    case off158 => ((repeat (first | (with_reducible assumption) | (with_reducible refine offc ?_ ?_; k_ne) | (with_reducible refine List.forall_mem_cons.mpr ⟨?_, ?_⟩; k_ne))))
    intro r9 so h' tk' hr9 hs F' N'
    (try k_sweep)
    (try dsimp only)
    obtain ⟨ln, hk⟩ : ∃ ln, KindV r9 ln := by
      simp only [List.mem_cons, List.not_mem_nil, or_false] at hr9
      rcases hr9 with h | h
      · exact ⟨true, h⟩
      · exact ⟨false, _, h⟩
    clear hr9
    (all_goals (repeat ((with_reducible refine OQ.use (by assumption) ?_); (try dsimp only))))
    w_strict (k_steps)
    (all_goals (repeat ((with_reducible refine OQ.use (by assumption) ?_); (try dsimp only))))
    refine Stop.mk ?_
    refine opk (fun K9 hK9 => ?_)
    k_dflt (refine' con_step (frame_conL XB TB _ _ r9 _ [.ref g1] _ _ _ (by simp)) (by assumption) (by k_asm) (news_pull (by k_asm) (by repeat (first | exact Pull.head _ | apply Pull.tail))) (by assumption) rfl rfl rfl ?hd159 ?hu159 ?hesc159 ?hret159)
    case hd159 => (dsimp only; first | exact dstep1 hdp rfl | exact dstep hdp rfl | omega)
    case hu159 => (dsimp only; first | exact dstep hun rfl | exact dstep1 hun rfl | omega)
    case hesc159 => exact fun _ _ _ _ q _ => q.elim
    intro r9 h' tk' news' F' N' P9
    (try k_sweep)
    (try dsimp only)
    obtain ⟨z, dx, ta, t1, t2, t3, t4, t5, tb', rfl, rfl, lo1, lo2, lo3, lo4⟩ := P9
    have hf : After sa news dx := ⟨lo1 (sa, _) (by k_mem), (fun p hp => lo1 p (by repeat (first | exact hp | refine List.mem_cons_of_mem _ ?_)))⟩
    (all_goals (repeat ((with_reducible refine OQ.use (by assumption) ?_); (try dsimp only))))
    refine end_c (by k_asm) (news_endF (t := [_, _]) N') TT ⟨z, so, _, mac, [(p1, 1 + v1)], r9, ln, rfl, hs, rfl, ⟨dx, ta, [.ref g1], 0, _, _, _, _, _, _, _, _, .tail _ (.head _), .tail _ (.tail _ (.head _)), .head _, .cons (.tail _ (.tail _ (.tail _ (.head _)))) (.tail _ (.tail _ (.tail _ (.tail _ (.head _))))) (.nil)⟩, hk, List.forall_mem_cons.mpr ⟨⟨hlop1, by show p1 ≤ 7; omega, by show 0 ≤ 1 + v1; omega, by show 1 + v1 < 4095; omega⟩, List.forall_mem_nil _⟩, by simp, hlomac, hhimac, ?addr2⟩
    exact List.forall_mem_cons.mpr ⟨(hf.up lo3).up lo4, List.forall_mem_cons.mpr ⟨hf.up lo3, List.forall_mem_cons.mpr ⟨hf, List.forall_mem_cons.mpr ⟨hf1.up ld1, List.forall_mem_cons.mpr ⟨hf1, List.forall_mem_nil _⟩⟩⟩⟩⟩
  · (all_goals (repeat ((with_reducible refine OQ.use (by assumption) ?_); (try dsimp only))))
    w_strict (k_steps)
    (all_goals (repeat ((with_reducible refine OQ.use (by assumption) ?_); (try dsimp only))))
    refine Stop.mk ?_
    refine opk (fun K9 hK9 => ?_)
    k_dflt (refine' take_k XB TB (by assumption) (by k_asm) (by k_asm) (by repeat (first | exact Pull.head _ | apply Pull.tail)) (by assumption) rfl rfl rfl ?hd160 ?hu160 ?hs ?h0160 ?h1160 ?off160 ?hret160)
    case hs => assumption
    case h0160 => first | decide | omega
    case h1160 => first | decide | omega
    case hd160 => (dsimp only; first | exact dstep1 hdp rfl | exact dstep hdp rfl | omega)
    case hu160 => (dsimp only; first | exact dstep hun rfl | exact dstep1 hun rfl | omega)
    case off160 => ((repeat (first | (with_reducible assumption) | (with_reducible refine offc ?_ ?_; k_ne) | (with_reducible refine List.forall_mem_cons.mpr ⟨?_, ?_⟩; k_ne))))
    intro p1 td so h' tk' hlop1 hhip1 hs F' N'
    (try k_sweep)
    (try dsimp only)
    (all_goals (repeat ((with_reducible refine OQ.use (by assumption) ?_); (try dsimp only))))
    w_strict (k_steps)
    (all_goals (repeat ((with_reducible refine OQ.use (by assumption) ?_); (try dsimp only))))
    refine Stop.mk ?_
    refine opk (fun K9 hK9 => ?_)
    k_dflt (refine' take_k XB TB (by assumption) (by k_asm) (by k_asm) (by repeat (first | exact Pull.head _ | apply Pull.tail)) (by assumption) rfl rfl rfl ?hd161 ?hu161 ?hs ?h0161 ?h1161 ?off161 ?hret161)
    case hs => assumption
    case h0161 => first | decide | omega
    case h1161 => first | decide | omega
    case hd161 => (dsimp only; first | exact dstep1 hdp rfl | exact dstep hdp rfl | omega)
    case hu161 => (dsimp only; first | exact dstep hun rfl | exact dstep1 hun rfl | omega)
    case off161 => ((repeat (first | (with_reducible assumption) | (with_reducible refine offc ?_ ?_; k_ne) | (with_reducible refine List.forall_mem_cons.mpr ⟨?_, ?_⟩; k_ne))))
    intro v1 td so h' tk' hlov1 hhiv1 hs F' N'
    (try k_sweep)
    (try dsimp only)
    (all_goals (repeat ((with_reducible refine OQ.use (by assumption) ?_); (try dsimp only))))
    w_strict (k_steps)
    (all_goals (repeat ((with_reducible refine OQ.use (by assumption) ?_); (try dsimp only))))
    refine Stop.mk ?_
    refine opk (fun K9 hK9 => ?_)
    k_dflt (refine' con_step (tag_con XB TB _ _ _ _) (by assumption) (by k_asm) (by k_asm) (by assumption) rfl rfl rfl ?hd162 ?hu162 ?hesc162 ?hret162)
    case hd162 => (dsimp only; first | exact dstep1 hdp rfl | exact dstep hdp rfl | omega)
    case hu162 => (dsimp only; first | exact dstep hun rfl | exact dstep1 hun rfl | omega)
    case hesc162 => exact fun _ _ _ _ q _ => q.elim
    intro r9 h' tk' news' F' N' P9
    (try k_sweep)
    (try dsimp only)
    obtain ⟨g1, d1, ua1, ub1, uc1, ud1, rfl, rfl, lg1, ld1⟩ := P9
    have hf1 : After sa news d1 := ⟨lg1 (sa, _) (by k_mem), (fun p hp => lg1 p (by repeat (first | exact hp | refine List.mem_cons_of_mem _ ?_)))⟩
    have lg1' := allLt_of lg1
    have ld1' : @LT.lt Nat _ d1 g1 := ld1
    simp only [AllLt] at lg1'
    (all_goals (repeat ((with_reducible refine OQ.use (by assumption) ?_); (try dsimp only))))
    w_strict (k_steps)
    (all_goals (repeat ((with_reducible refine OQ.use (by assumption) ?_); (try dsimp only))))
    refine LCg.CompEnd.intro (by k_asm) (news_pull3 (by k_asm) (by repeat (first | exact Pull.head _ | apply Pull.tail)) (by repeat (first | exact Pull.head _ | apply Pull.tail)) (by repeat (first | exact Pull.head _ | apply Pull.tail))) _ (fun _ h => h) ?compoff trivial ?_
    case compoff => (repeat (refine And.intro (by first | ((rename ((_ ≠ _ ∧ _ ≠ _ ∧ _ ≠ _) ∧ _) => hO9); first | exact hO9.1 | exact hO9.2.1 | exact hO9.2.2.1 | exact hO9.2.2.2.1 | exact hO9.2.2.2.2.1 | exact hO9.2.2.2.2.2.1) | exact ⟨by k_ne, by k_ne, by k_ne⟩) ?_)); (first | assumption | exact And.right (by assumption) | exact And.right (And.right (by assumption)) | exact And.right (And.right (And.right (by assumption))) | exact And.right (And.right (And.right (And.right (by assumption)))) | (simp only [LCg.Off3, and_true]; assumption))
    (all_goals (repeat ((with_reducible refine OQ.use (by assumption) ?_); (try dsimp only))))
    w_strict (k_steps)
    (all_goals (repeat ((with_reducible refine OQ.use (by assumption) ?_); (try dsimp only))))
    refine Stop.mk ?_
    refine opk (fun K9 hK9 => ?_)
    k_dflt (refine' take_k XB TB (by assumption) (by k_asm) (by k_asm) (by repeat (first | exact Pull.head _ | apply Pull.tail)) (by assumption) rfl rfl rfl ?hd164 ?hu164 ?hs ?h0164 ?h1164 ?off164 ?hret164)
    case hs => assumption
    case h0164 => first | decide | omega
    case h1164 => first | decide | omega
    case hd164 => (dsimp only; first | exact dstep1 hdp rfl | exact dstep hdp rfl | omega)
    case hu164 => (dsimp only; first | exact dstep hun rfl | exact dstep1 hun rfl | omega)
    case off164 => ((repeat (first | (with_reducible assumption) | (with_reducible refine offc ?_ ?_; k_ne) | (with_reducible refine List.forall_mem_cons.mpr ⟨?_, ?_⟩; k_ne))))
    intro p2 td so h' tk' hlop2 hhip2 hs F' N'
    (try k_sweep)
    (try dsimp only)
    (all_goals (repeat ((with_reducible refine OQ.use (by assumption) ?_); (try dsimp only))))
    w_strict (k_steps)
    (all_goals (repeat ((with_reducible refine OQ.use (by assumption) ?_); (try dsimp only))))
    refine Stop.mk ?_
    refine opk (fun K9 hK9 => ?_)
    k_dflt (refine' take_k XB TB (by assumption) (by k_asm) (by k_asm) (by repeat (first | exact Pull.head _ | apply Pull.tail)) (by assumption) rfl rfl rfl ?hd165 ?hu165 ?hs ?h0165 ?h1165 ?off165 ?hret165)
    case hs => assumption
    case h0165 => first | decide | omega
    case h1165 => first | decide | omega
    case hd165 => (dsimp only; first | exact dstep1 hdp rfl | exact dstep hdp rfl | omega)
    case hu165 => (dsimp only; first | exact dstep hun rfl | exact dstep1 hun rfl | omega)
    case off165 => ((repeat (first | (with_reducible assumption) | (with_reducible refine offc ?_ ?_; k_ne) | (with_reducible refine List.forall_mem_cons.mpr ⟨?_, ?_⟩; k_ne))))
    intro v2 td so h' tk' hlov2 hhiv2 hs F' N'
    (try k_sweep)
    (try dsimp only)
    (all_goals (repeat ((with_reducible refine OQ.use (by assumption) ?_); (try dsimp only))))
    w_strict (k_steps)
    (all_goals (repeat ((with_reducible refine OQ.use (by assumption) ?_); (try dsimp only))))
    refine Stop.mk ?_
    refine opk (fun K9 hK9 => ?_)
    k_dflt (refine' con_step (tag_con XB TB _ _ _ _) (by assumption) (by k_asm) (by k_asm) (by assumption) rfl rfl rfl ?hd166 ?hu166 ?hesc166 ?hret166)
    case hd166 => (dsimp only; first | exact dstep1 hdp rfl | exact dstep hdp rfl | omega)
    case hu166 => (dsimp only; first | exact dstep hun rfl | exact dstep1 hun rfl | omega)
    case hesc166 => exact fun _ _ _ _ q _ => q.elim
    intro r9 h' tk' news' F' N' P9
    (try k_sweep)
    (try dsimp only)
    obtain ⟨g2, d2, ua2, ub2, uc2, ud2, rfl, rfl, lg2, ld2⟩ := P9
    have hf2 : After sa news d2 := ⟨lg2 (sa, _) (by k_mem), (fun p hp => lg2 p (by repeat (first | exact hp | refine List.mem_cons_of_mem _ ?_)))⟩
    have lg2' := allLt_of lg2
    have ld2' : @LT.lt Nat _ d2 g2 := ld2
    simp only [AllLt] at lg2'
    (all_goals (repeat ((with_reducible refine OQ.use (by assumption) ?_); (try dsimp only))))
    w_strict (k_steps)
    (all_goals (repeat ((with_reducible refine OQ.use (by assumption) ?_); (try dsimp only))))
    refine LCg.CompEnd.intro (by k_asm) (news_pull3 (by k_asm) (by repeat (first | exact Pull.head _ | apply Pull.tail)) (by repeat (first | exact Pull.head _ | apply Pull.tail)) (by repeat (first | exact Pull.head _ | apply Pull.tail))) _ (fun _ h => h) ?compoff trivial ?_
    case compoff => (repeat (refine And.intro (by first | ((rename ((_ ≠ _ ∧ _ ≠ _ ∧ _ ≠ _) ∧ _) => hO9); first | exact hO9.1 | exact hO9.2.1 | exact hO9.2.2.1 | exact hO9.2.2.2.1 | exact hO9.2.2.2.2.1 | exact hO9.2.2.2.2.2.1) | exact ⟨by k_ne, by k_ne, by k_ne⟩) ?_)); (first | assumption | exact And.right (by assumption) | exact And.right (And.right (by assumption)) | exact And.right (And.right (And.right (by assumption))) | exact And.right (And.right (And.right (And.right (by assumption)))) | (simp only [LCg.Off3, and_true]; assumption))
    (all_goals (repeat ((with_reducible refine OQ.use (by assumption) ?_); (try dsimp only))))
    w_strict (k_steps)
    (all_goals (repeat ((with_reducible refine OQ.use (by assumption) ?_); (try dsimp only))))
    refine Stop.mk ?_
    refine opk (fun K9 hK9 => ?_)
    k_dflt (refine' take_k XB TB (by assumption) (by k_asm) (by k_asm) (by repeat (first | exact Pull.head _ | apply Pull.tail)) (by assumption) rfl rfl rfl ?hd168 ?hu168 ?hs ?h0168 ?h1168 ?off168 ?hret168)
    case hs => assumption
    case h0168 => first | decide | omega
    case h1168 => first | decide | omega
    case hd168 => (dsimp only; first | exact dstep1 hdp rfl | exact dstep hdp rfl | omega)
    case hu168 => (dsimp only; first | exact dstep hun rfl | exact dstep1 hun rfl | omega)
    case off168 => ((repeat (first | (with_reducible assumption) | (with_reducible refine offc ?_ ?_; k_ne) | (with_reducible refine List.forall_mem_cons.mpr ⟨?_, ?_⟩; k_ne))))
    intro mac td so h' tk' hlomac hhimac hs F' N'
    (try k_sweep)
    (try dsimp only)
    (all_goals (repeat ((with_reducible refine OQ.use (by assumption) ?_); (try dsimp only))))
    w_strict (k_steps)
    (all_goals (repeat ((with_reducible refine OQ.use (by assumption) ?_); (try dsimp only))))
    refine Stop.mk ?_
    refine opk (fun K9 hK9 => ?_)
    k_dflt (refine' one_m XB TB (by assumption) (by k_asm) (by k_asm) (by repeat (first | exact Pull.head _ | apply Pull.tail)) (by repeat (first | exact Pull.head _ | apply Pull.tail)) (by assumption) rfl rfl rfl ?hd169 ?hu169 ?hs rfl rfl ?off169 ?ol169 ?hret169)
    case hs => assumption
    case ol169 => first | k_ne
    case hd169 => (dsimp only; first | exact dstep1 hdp rfl | exact dstep hdp rfl | omega)
    case hu169 => (dsimp only; first | exact dstep hun rfl | exact dstep1 hun rfl | omega)
    case off169 => ((repeat (first | (with_reducible assumption) | (with_reducible refine offc ?_ ?_; k_ne) | (with_reducible refine List.forall_mem_cons.mpr ⟨?_, ?_⟩; k_ne))))
    intro r9 so h' tk' hr9 hs F' N'
    (try k_sweep)
    (try dsimp only)
    obtain ⟨ln, hk⟩ : ∃ ln, KindV r9 ln := by
      simp only [List.mem_cons, List.not_mem_nil, or_false] at hr9
      rcases hr9 with h | h
      · exact ⟨true, h⟩
      · exact ⟨false, _, h⟩
    clear hr9
    (all_goals (repeat ((with_reducible refine OQ.use (by assumption) ?_); (try dsimp only))))
    w_strict (k_steps)
    (all_goals (repeat ((with_reducible refine OQ.use (by assumption) ?_); (try dsimp only))))
    refine Stop.mk ?_
    refine opk (fun K9 hK9 => ?_)
    k_dflt (refine' con_step (frame_conL XB TB _ _ r9 _ [.ref g1, .ref g2] _ _ _ (by simp)) (by assumption) (by k_asm) (news_pull (by k_asm) (by repeat (first | exact Pull.head _ | apply Pull.tail))) (by assumption) rfl rfl rfl ?hd170 ?hu170 ?hesc170 ?hret170)
    case hd170 => (dsimp only; first | exact dstep1 hdp rfl | exact dstep hdp rfl | omega)
    case hu170 => (dsimp only; first | exact dstep hun rfl | exact dstep1 hun rfl | omega)
    case hesc170 => exact fun _ _ _ _ q _ => q.elim
    intro r9 h' tk' news' F' N' P9
    (try k_sweep)
    (try dsimp only)
    obtain ⟨z, dx, ta, t1, t2, t3, t4, t5, tb', rfl, rfl, lo1, lo2, lo3, lo4⟩ := P9
    have hf : After sa news dx := ⟨lo1 (sa, _) (by k_mem), (fun p hp => lo1 p (by repeat (first | exact hp | refine List.mem_cons_of_mem _ ?_)))⟩
    (all_goals (repeat ((with_reducible refine OQ.use (by assumption) ?_); (try dsimp only))))
    refine end_c (by k_asm) (news_endF (t := [_, _, _, _]) N') TT ⟨z, so, _, mac, [(p1, 1 + v1), (p2, 1 + v2)], r9, ln, rfl, hs, rfl, ⟨dx, ta, [.ref g1, .ref g2], 0, _, _, _, _, _, _, _, _, .tail _ (.head _), .tail _ (.tail _ (.head _)), .head _, .cons (.tail _ (.tail _ (.tail _ (.tail _ (.tail _ (.head _)))))) (.tail _ (.tail _ (.tail _ (.tail _ (.tail _ (.tail _ (.head _))))))) (.cons (.tail _ (.tail _ (.tail _ (.head _)))) (.tail _ (.tail _ (.tail _ (.tail _ (.head _))))) (.nil))⟩, hk, List.forall_mem_cons.mpr ⟨⟨hlop1, by show p1 ≤ 7; omega, by show 0 ≤ 1 + v1; omega, by show 1 + v1 < 4095; omega⟩, List.forall_mem_cons.mpr ⟨⟨hlop2, by show p2 ≤ 7; omega, by show 0 ≤ 1 + v2; omega, by show 1 + v2 < 4095; omega⟩, List.forall_mem_nil _⟩⟩, by simp, hlomac, hhimac, ?addr3⟩
    exact List.forall_mem_cons.mpr ⟨(hf.up lo3).up lo4, List.forall_mem_cons.mpr ⟨hf.up lo3, List.forall_mem_cons.mpr ⟨hf, List.forall_mem_cons.mpr ⟨hf2.up ld2, List.forall_mem_cons.mpr ⟨hf2, List.forall_mem_cons.mpr ⟨hf1.up ld1, List.forall_mem_cons.mpr ⟨hf1, List.forall_mem_nil _⟩⟩⟩⟩⟩⟩⟩
end
section
variable {w : World} {p : Program} {loose : List Str} {mean : ExcName → Option Value} {mg mb : Str → Option Value} {base : Heap} {news : List (Addr × Obj)}
theorem rep_len {d : Int} : ∀ k : Nat, (List.replicate k [d]).flatten.length = k
  | 0 => rfl
  | k + 1 => by rw [List.replicate_succ, List.flatten_cons, List.length_append, rep_len k, List.length_singleton, Nat.add_comm]
theorem rep_ints {d : Int} {t : Tok} : ∀ k : Nat, IntsAre (List.replicate k [Value.int d t]).flatten (List.replicate k [d]).flatten
  | 0 => .nil
  | k + 1 => by
    rw [List.replicate_succ, List.flatten_cons, List.replicate_succ, List.flatten_cons]
    exact .cons _ _ (rep_ints k)
theorem rep_in {d : Int} (h0 : 0 ≤ d) (h1 : d < 256) : ∀ k : Nat, KBa.In (List.replicate k [d]).flatten
  | 0 => List.forall_mem_nil _
  | k + 1 => by
    rw [List.replicate_succ, List.flatten_cons]
    exact List.forall_mem_cons.mpr ⟨⟨h0, by omega⟩, rep_in h0 h1 k⟩
theorem mk_rep {prog : Program} {A : Around} {E : Value → Shared → Prop} {s : Shared} {h₀ : Heap} {L D : Addr} {m : Str → Option Value} {d n : Int} {t : Tok} {k : Nat} {Q : Value → Shared → Prop} (F : Fr h₀ L s.heap m) (N : News h₀ L s.heap news) (hh : A.handled = none)
    (hl : s.heap.IsList D (List.replicate k [Value.int d t]).flatten.toArray) (h0 : 0 ≤ d) (h1 : d < 256) (hk : (k : Int) = n) (hn : n ≤ 5000)
    (h : ∀ h' t' tk (bb : Array UInt8) (ks : List Int), Fr h₀ L h' m → News h₀ L h' news → KBw.bInts bb = ks → (ks.length : Int) = n → Q (.bytes bb t') { s with heap := h', toks := tk }) : wpAny (model prog w) A (call (.type "bytes") [.ref D]) Q E s := by
  (all_goals (repeat ((with_reducible refine OQ.use (by assumption) ?_); (try dsimp only))))
  refine KBa.make_K F N hh hl (rep_ints k) (rep_in h0 h1 k) (by rw [rep_len]; omega) fun h' t' tk F' N' hIn => ?_
  exact h h' t' tk _ _ F' N' (KBa.ints_make hIn) (by rw [rep_len]; exact hk)
theorem news_mid {g h : Heap} {L : Addr} {l ex : List (Addr × Obj)} {x : Addr × Obj} (pre : List (Addr × Obj)) (N : News g L h (x :: (ex ++ (pre ++ l)))) : News g L h (x :: (pre ++ (ex ++ l))) := news_sub N (by
  intro p hp
  simp only [List.mem_cons, List.mem_append] at hp ⊢
  rcases hp with h | h | h | h <;> simp [h])
theorem pack_ok (XB : (Lw.head.heap_1 w.params).In base) (TB : Top p loose mean mg mb base) {l : List (Addr × Obj)} {a : Addr} {x y : Int} {ps : List (Int × Int)} {kd : Value} {b : Array UInt8} (ln : Bool) (ks : List Int) (Fi : FrameIn w l a x y ps kd b) (hk : KindV kd ln) (hb : KBw.bInts b = ks) (hT : TagsOk ps)
    (hx0 : 0 ≤ x) (hx1 : x < 281474976710656) (hy0 : 0 ≤ y) (hy1 : y < 281474976710656) (hl : ks.length ≤ 1500) (hn : ps.length ≤ 2) :
    Con w base 60 800 288 [.ref a] l (fun r news' => news' = l ∧ IsB r (packB x y (tagsB ps) (kindB ln ks.length) ks)) (fun _ => False) :=
  con_mono (pack_in XB TB ln ks Fi hk hb hT hx0 hx1 hy0 hy1 (by first | decide | omega) hn) (fun _ _ q => ⟨q.1, q.2.2⟩) fun _ q => by omega
theorem news_dup3 {g h : Heap} {L : Addr} {l ex : List (Addr × Obj)} {a b c : Addr × Obj} (N : News g L h l) (s : ∀ p ∈ ex, p ∈ l) (h1 : a ∈ ex) (h2 : b ∈ ex) (h3 : c ∈ ex) : News g L h (a :: b :: c :: l) := fun p hp => by
  rcases List.mem_cons.mp hp with rfl | hp
  · exact N _ (s _ h1)
  · rcases List.mem_cons.mp hp with rfl | hp
    · exact N _ (s _ h2)
    · rcases List.mem_cons.mp hp with rfl | hp
      · exact N _ (s _ h3)
      · exact N _ hp
theorem ne_int_same {prog : Program} {A : Around} {E : Value → Shared → Prop} {s : Shared} {a b : Int} {t u : Tok} {Q : Value → Shared → Prop} (h : a = b) (hq : Q (.bool false) s) : wpAny (model prog w) A (compareOp .NotEq (.int a t) (.int b u)) Q E s := by
  subst h
  refine ne_int ?_
  simpa using hq
def filB (ln : Bool) (n k : Nat) : List Int := match ln with
  | true => []
  | false => List.replicate (60 - (14 + 4 * n + k)) 0
theorem payB_eq (ln : Bool) (n : Nat) (ks : List Int) : payB ln n ks = ks ++ filB ln n ks.length := by
  cases ln
  · rfl
  · exact (List.append_nil ks).symm
theorem off_tup {g h : Heap} {L : Addr} {l ex : List (Addr × Obj)} {a : Addr} {o : Obj} (N : News g L h l) (s : ∀ p ∈ ex, p ∈ l) (c : ∀ p ∈ ex, ∃ its n, p.2 = (⟨Value.type "tuple", none, Data.seq its n, #[]⟩ : Obj)) (hm : (a, o) ∈ l) (hd : ∀ its n, o.data ≠ .seq its n) : ∀ p ∈ ex, p.1 ≠ a := fun p hp e => by
  obtain ⟨its, n, q⟩ := c p hp
  have h1 := (N p (s p hp)).1
  rw [e, (N _ hm).1, q] at h1
  exact hd its n (congrArg Obj.data (Option.some.inj h1))
theorem filB_len (ln : Bool) (n k : Nat) : (filB ln n k).length ≤ 60 := by
  cases ln
  · show (List.replicate _ _).length ≤ 60
    rw [List.length_replicate]; omega
  · exact Nat.zero_le _
theorem off_cell {g h : Heap} {L : Addr} {l ex : List (Addr × Obj)} {a : Addr} {o : Obj} {c : Option Value} (N : News g L h l) (s : ∀ p ∈ ex, p ∈ l) (c1 : ∀ p ∈ ex, ∃ its n, p.2 = (⟨Value.type "tuple", none, Data.seq its n, #[]⟩ : Obj)) (hm : (a, o) ∈ l) (hd : o.data = Data.cell c) : ∀ p ∈ ex, p.1 ≠ a :=
  off_tup N s c1 hm fun its n e => by rw [hd] at e; cases e
theorem off_both {A B : List (Addr × Obj)} {a : Addr} (h1 : ∀ p ∈ A, p.1 ≠ a) (h2 : ∀ p ∈ B, p.1 ≠ a) : ∀ p ∈ A ++ B, p.1 ≠ a := fun p hp => (List.mem_append.mp hp).elim (h1 p) (h2 p)
theorem thin_due {g h : Heap} {L : Addr} {a1 a2 a3 a4 a5 a6 z1 z2 z3 c3 c2 c1 p : Addr × Obj} {nt ex l : List (Addr × Obj)} (N : News g L h (a1 :: a2 :: a3 :: a4 :: a5 :: a6 :: z1 :: z2 :: z3 :: c3 :: c2 :: c1 :: p :: (nt ++ (ex ++ l)))) : News g L h (a2 :: a1 :: a6 :: c3 :: c2 :: c1 :: p :: (nt ++ l)) := news_sub N (by
  intro q hq
  simp only [List.mem_cons, List.mem_append] at hq ⊢
  rcases hq with h | h | h | h | h | h | h | h | h <;> simp [h])
inductive SplitA (T : List (Addr × Obj)) : List (Addr × Obj) → List (Addr × Obj) → Prop
  | nil : SplitA T T []
  | cons (x) {l A} : SplitA T l A → SplitA T (x :: l) (x :: A)
  | app (X) {l A} : SplitA T l A → SplitA T (X ++ l) (X ++ A)
theorem split_of (T : List (Addr × Obj)) : ∀ A : List (Addr × Obj), Split T (A ++ T) A
  | [] => .nil
  | x :: A => .cons x (split_of T A)
theorem SplitA.eq {T : List (Addr × Obj)} : ∀ {l A : List (Addr × Obj)}, SplitA T l A → l = A ++ T
  | _, _, .nil => rfl
  | _, _, .cons x s => congrArg (x :: ·) s.eq
  | _, _, .app X s => by rw [s.eq, List.append_assoc]
theorem SplitA.toS {T l A : List (Addr × Obj)} (s : SplitA T l A) : Split T l A := s.eq ▸ split_of T A
theorem unr_end {h₀ : Heap} {L : Addr} {rest : (Str → Option Value) → List (Addr × Obj) → Prop} {s₁ : Shared} {h' : Heap} {tk : Nat} {m' : Str → Option Value} {q2 a b c f p I d5 ll sa c3 c2 c1 : Addr × Obj} {nt2 nw T : List (Addr × Obj)} (F : Fr h₀ L h' m')
    (N : News h₀ L h' (q2 :: (nt2 ++ (a :: b :: c :: (nw ++ (f :: p :: I :: d5 :: ll :: sa :: c3 :: c2 :: c1 :: T)))))) (off : ∀ x ∈ (d5 :: ll :: sa :: c3 :: c2 :: c1 :: p :: T), x.1 ≠ I.1) (r : rest m' (d5 :: ll :: sa :: c3 :: c2 :: c1 :: p :: T)) : UnrEndW h₀ L s₁ [I] rest { s₁ with heap := h', toks := tk } :=
  ⟨h', tk, m', _, rfl, F, news_sub N (by
    intro x hx
    simp only [List.mem_cons, List.mem_append, List.not_mem_nil, or_false] at hx ⊢
    rcases hx with h | h | h | h | h | h | h | h | h <;> simp [h]), fun x hx y hy => by
    rw [List.mem_singleton.mp hy]
    exact off x hx, r⟩
theorem heardK_form {dn un' : Nat} {f c' : Addr} (B : Prop) (P : Value → Prop) {qual : Str} {prm : Arguments} {lb : PySem.Expr} {sc : Scope} {cl : List (Str × Addr)} {pm ctv : Value} (XB : (Lw.head.heap_1 w.params).In base) (TB : Top p loose mean mg mb base) (hf : (f, kla_obj "<lambda>" qual prm lb sc cl pm c' ctv) ∈ news)
    (C : Con w base dn un' f [] news (fun r news' => news' = news ∧ P r) (fun c => B ∧ c = .ref 151)) : ConT w base (dn + 20) (un' + 200) 338 [.ref f] news (fun r news' => news' = news ∧ (P r ∨ (B ∧ ∃ tk, r = .str "form" tk))) (fun _ => False) :=
  conT_mono (heard_form XB TB hf C) (fun r n h => by rcases h with ⟨a, b⟩ | ⟨a, b, c⟩; exact ⟨a, .inl b⟩; exact ⟨b, .inr ⟨a, c⟩⟩) fun _ q => q
theorem sl4_applied {prog : Program} {A : Around} {E : Value → Shared → Prop} {s : Shared} {sl : Addr} {u : Tok} {Q : Int × Int × Nat → Shared → Prop} (hs : s.heap.IsSliceOf sl .none (.int 4 u) .none) (h : Q ((0 : Int), 1, 4) s) :
    wpAny (model prog w) A (Builtin.Slice.sliceApplied (.ref sl) (pure (5 : Int))) Q E s := by
  obtain ⟨os, hos, hcs, hds⟩ := id hs
  unfold Builtin.Slice.sliceApplied Builtin.Slice.sliceFields
  (all_goals (repeat ((with_reducible refine OQ.use (by assumption) ?_); (try dsimp only))))
  refine wpAny_bind (wpAny_bind (wpAny_field hos hds (x := .none) rfl (wpAny_bind (wpAny_field hos hds (x := .int 4 u) rfl (wpAny_bind (wpAny_field hos hds (x := .none) rfl (wpAny_pure ?_)))))))
  (all_goals (repeat ((with_reducible refine OQ.use (by assumption) ?_); (try dsimp only))))
  refine wpAny_bind (slicePart_none ?_)
  show wpAny _ _ (if ((1 : Int) == 0) = true then _ else _) _ _ s
  rw [if_neg (by decide)]
  (all_goals (repeat ((with_reducible refine OQ.use (by assumption) ?_); (try dsimp only))))
  refine wpAny_bind (slicePart_none (wpAny_bind (slicePart_int (wpAny_bind (wpAny_pure ?_)))))
  show wpAny _ _ (match Builtin.Slice.sliceAdjust none (some (4 : Int)) 1 (5 : Int) with | (lo, hi) => pure (lo, (1 : Int), Builtin.Slice.slicePlaces lo hi 1)) _ _ s
  rw [show Builtin.Slice.sliceAdjust none (some (4 : Int)) 1 (5 : Int) = ((0 : Int), (4 : Int)) from by decide]
  show wpAny _ _ (pure ((0 : Int), (1 : Int), Builtin.Slice.slicePlaces (0 : Int) (4 : Int) 1)) _ _ s
  rw [show Builtin.Slice.slicePlaces (0 : Int) (4 : Int) 1 = 4 from by decide]
  (all_goals (repeat ((with_reducible refine OQ.use (by assumption) ?_); (try dsimp only))))
  exact wpAny_pure h
theorem sl4_get {prog : Program} {A : Around} {E : Value → Shared → Prop} {s : Shared} {t sl : Addr} {a b c d e : Value} {u : Tok} {Q : Value → Shared → Prop} (ht : IsTup s.heap t #[a, b, c, d, e]) (hs : s.heap.IsSliceOf sl .none (.int 4 u) .none)
    (h : Q (.ref s.heap.objs.size) { s with heap := s.heap.push { cls := .type "tuple", data := .seq #[a, b, c, d] } }) : wpAny (model prog w) A (getItem (.ref t) (.ref sl)) Q E s := by
  have hdrop : sizeOk (.seq #[a, b, c, d]) := by
    show 4 ≤ sizeLine
    rw [sizeLine_eq]; omega
  obtain ⟨os, hos, hcs, hds⟩ := id hs
  have hTs : s.TypeIs (.ref sl) "slice" := ⟨os, hos, hcs⟩
  unfold getItem
  try with_reducible refine wpAny_holding ?_
  first | refine wpAny_bind (wpAny_pure ?_) | skip
  (all_goals (repeat ((with_reducible refine OQ.use (by assumption) ?_); (try dsimp only))))
  refine wpAny_bind (wpAny_sequenceKey ht.typeIs (by decide) ?_)
  (all_goals (repeat ((with_reducible refine OQ.use (by assumption) ?_); (try dsimp only))))
  refine wpAny_bind (wpAny_callSpecial?_slot (name := Str.ofString "__getitem__") ht.typeIs slot_tuple_getitem
    (wpAny_call_entry slot_tuple_getitem ht.typeIs entry_tuple_getitem ?_ (args_tuple_getitem _ _)))
  show wpAny _ _ (Builtin.Tuple.tupleItemsOf (.ref t) >>= _) _ _ s
  (all_goals (repeat ((with_reducible refine OQ.use (by assumption) ?_); (try dsimp only))))
  refine wpAny_bind (tupleItemsOf_ ht ?_)
  (all_goals (repeat ((with_reducible refine OQ.use (by assumption) ?_); (try dsimp only))))
  refine wpAny_bind (wpAny_typeOf hTs ?_)
  rw [if_pos (by decide)]
  (all_goals (repeat ((with_reducible refine OQ.use (by assumption) ?_); (try dsimp only))))
  refine wpAny_bind (sl4_applied hs ?_)
  show wpAny _ _ (if ((0 : Int) == 0 && (1 : Int) == 1 && (4 : Nat) == 5) = true then _ else _) _ _ s
  rw [if_neg (by decide)]
  have hp : ((List.range 4).filterMap fun (k : Nat) => (#[a, b, c, d, e] : Array Value)[((0 : Int) + (k : Int) * 1).toNat]?).toArray = #[a, b, c, d] := by rfl
  rw [hp]
  first
    | exact wpAny_bind (m := Builtin.Tuple.tupleExact _) (wpAny_newObj_type (wpAny_pure ⟨_, rfl, wpAny_pure h⟩) hdrop)
    | exact wpAny_bind (m := Builtin.Tuple.tupleExact _) (wpAny_newObj_type (wpAny_bind (wpAny_pure (wpAny_pure ⟨_, rfl, wpAny_pure h⟩))) hdrop)
    | exact wpAny_bind (wpAny_bind (m := Builtin.Tuple.tupleExact _) (wpAny_newObj_type (wpAny_pure (wpAny_pure ⟨_, rfl, wpAny_pure h⟩)) hdrop))
    | exact wpAny_bind (wpAny_bind (m := Builtin.Tuple.tupleExact _) (wpAny_newObj_type (wpAny_pure ⟨_, rfl, wpAny_pure h⟩) hdrop))
theorem sl4_walk {prog : Program} {A : Around} {E : Value → Shared → Prop} {s : Shared} {h₀ : Heap} {L : Addr} {m : Str → Option Value} {value slice : PySem.Expr} {t : Addr} {a b c d e : Value} {n : Nat} {u : Tok} {Q : Value → Shared → Prop}
    (F : Fr h₀ L s.heap m) (N : News h₀ L s.heap news) (hm : (t, (⟨Value.type "tuple", none, Data.seq #[a, b, c, d, e] n, #[]⟩ : Obj)) ∈ news)
    (h : ∀ D h', Fr h₀ L h' m → News h₀ L h' ((D, (⟨Value.type "tuple", none, Data.seq #[a, b, c, d] 0, #[]⟩ : Obj)) :: news) → (∀ p ∈ news, p.1 < D) → Q (.ref D) { s with heap := h' })
    (hs : subscripted slice false (.ref t) (.ref s.heap.objs.size) = operate [.ref s.heap.objs.size, .ref t] (getItem (.ref t) (.ref s.heap.objs.size)))
    (hg : ∀ r, letTemporaryGo value (.ref t) r = pure ()) :
    wpAny (model prog w) A (subscriptTail value slice (.ref t) (.ref s.heap.objs.size)) Q E { s with heap := s.heap.push { cls := .type "slice", data := .fields #[.none, .int 4 u, .none] } } := by
  have ht : IsTup s.heap t #[a, b, c, d, e] := ⟨_, (N _ hm).1, rfl, n, rfl⟩
  have ht' : IsTup (s.heap.push { cls := .type "slice", data := .fields #[.none, .int 4 u, .none] }) t #[a, b, c, d, e] := ht.keeps fun _ _ e => Heap.get?_push_of_some _ e
  refine subscriptTail_ops (s := { s with heap := s.heap.push { cls := .type "slice", data := .fields #[.none, .int 4 u, .none] } }) ht'.typeIs slot_tuple_getitem.lookup
    (sl4_get ht' (Heap.IsSliceOf.new ..) ?_) hs hg
  have N1 := News.push (F.push { cls := .type "slice", data := .fields #[.none, .int 4 u, .none] }) (N.grown fun _ _ e => Heap.get?_push_of_some _ e) { cls := .type "tuple", data := .seq #[a, b, c, d] }
  rw [Heap.size_push] at N1
  show Q (.ref (s.heap.push _).objs.size) _
  rw [Heap.size_push]
  exact h _ _ ((F.push _).push _) N1 fun p hp => Nat.lt_succ_of_lt (Heap.lt_size (N p hp).1)
section
variable {A : Around} {s : Shared}
theorem eqAt_int (i : Int) (t u : Tok) : SeqAt.EqAt A s (.int i t) (.int i u) true := by
  have h := SeqAt.EqAt.int_int (A := A) (s := s) i t i u
  rwa [beq_self_eq_true] at h
theorem eqAt_bytes (b : Array UInt8) (t u : Tok) : SeqAt.EqAt A s (.bytes b t) (.bytes b u) true := fun prog w E Q h => by
  unfold eqBool
  (all_goals (repeat ((with_reducible refine OQ.use (by assumption) ?_); (try dsimp only))))
  refine wpAny_holding ?_
  (all_goals (repeat ((with_reducible refine OQ.use (by assumption) ?_); (try dsimp only))))
  refine wpAny_ite_split (fun hab => ?_) (fun _ => ?_)
  · (all_goals (repeat ((with_reducible refine OQ.use (by assumption) ?_); (try dsimp only))))
    exact wpAny_bind (wpAny_rule (wpAny_pure h))
  · (all_goals (repeat ((with_reducible refine OQ.use (by assumption) ?_); (try dsimp only))))
    refine wpAny_bind ?_
    show wpAny _ _ (compareOp .Eq (.bytes b t) (.bytes b u)) _ _ _
    refine eq_bytes ?_
    rw [beq_self_eq_true]
    (all_goals (repeat ((with_reducible refine OQ.use (by assumption) ?_); (try dsimp only))))
    exact wpAny_truthy_bool h
theorem isTuple_of {h₀ : Heap} {L a : Addr} {l : List (Addr × Obj)} {its : Array Value} {n : Nat} {h : Heap} (N : News h₀ L h l) (hm : (a, (⟨Value.type "tuple", none, Data.seq its n, #[]⟩ : Obj)) ∈ l) : h.IsTuple a its := ⟨_, (N _ hm).1, rfl, n, rfl⟩
theorem rcAt_tup {a b : Addr} {its its2 : Array Value} (ha : s.heap.IsTuple a its) (hb : s.heap.IsTuple b its2) (hz : its.size = its2.size) (hu : A.units < cLine) (he : ∀ j (h1 : j < its.size) (h2 : j < its2.size), SeqAt.EqAt A.in1 s its[j] its2[j] true) : SeqAt.RcAt A s (.ref a) (.ref b) true := by
  have h := SeqAt.RcAt.tuples (e := fun _ => true) ha hb hu he
  rw [hz, Nat.min_self, List.all_eq_true.mpr (fun _ _ => rfl), beq_self_eq_true] at h
  exact h
theorem rcNeAt_tup {a b : Addr} {its its2 : Array Value} (ha : s.heap.IsTuple a its) (hb : s.heap.IsTuple b its2) (hz : its.size = its2.size) (hu : A.units < cLine) (he : ∀ j (h1 : j < its.size) (h2 : j < its2.size), SeqAt.EqAt A.in1 s its[j] its2[j] true) : SeqAt.RcNeAt A s (.ref a) (.ref b) false := by
  have h := SeqAt.RcNeAt.tuples (e := fun _ => true) ha hb hu he
  rw [hz, Nat.min_self, List.all_eq_true.mpr (fun _ _ => rfl), beq_self_eq_true] at h
  exact h
theorem eqAt_tup {a b : Addr} {its its2 : Array Value} (ha : s.heap.IsTuple a its) (hb : s.heap.IsTuple b its2) (hz : its.size = its2.size) (hu : A.units < cLine) (he : ∀ j (h1 : j < its.size) (h2 : j < its2.size), SeqAt.EqAt A.in1 s its[j] its2[j] true) : SeqAt.EqAt A s (.ref a) (.ref b) true := by
  by_cases q : a = b
  · subst q
    exact SeqAt.EqAt.same _
  · exact SeqAt.EqAt.of_refs q (rcAt_tup ha hb hz hu he)
theorem eqAt_one {h₀ : Heap} {L : Addr} {l : List (Addr × Obj)} (N : News h₀ L s.heap l) {g g' : Addr} {p v : Int} {t1 t2 t3 u1 u2 u3 : Tok} {n n' : Nat} (m1 : (g, (⟨Value.type "tuple", none, Data.seq #[.int 33024 t1, .int p t2, .bool false, .int v t3] n, #[]⟩ : Obj)) ∈ l) (m2 : (g', (⟨Value.type "tuple", none, Data.seq #[.int 33024 u1, .int p u2, .bool false, .int v u3] n', #[]⟩ : Obj)) ∈ l) (hu : A.units < cLine) :
    SeqAt.EqAt A s (.ref g) (.ref g') true :=
  eqAt_tup (isTuple_of N m1) (isTuple_of N m2) rfl hu fun j h1 h2 => match j, h1, h2 with
    | 0, _, _ => eqAt_int _ _ _
    | 1, _, _ => eqAt_int _ _ _
    | 2, _, _ => SeqAt.EqAt.same _
    | 3, _, _ => eqAt_int _ _ _
    | n + 4, h, _ => absurd (show n + 4 < 4 from h) (by first | decide | omega)
theorem eqAt_tags {h₀ : Heap} {L : Addr} {l : List (Addr × Obj)} (N : News h₀ L s.heap l) (hu : A.units < cLine) : ∀ {ps : List (Int × Int)} {vs vs' : List Value}, TagsTold l ps vs → TagsTold l ps vs' → vs.length = vs'.length ∧ ∀ j (h1 : j < vs.length) (h2 : j < vs'.length), SeqAt.EqAt A s vs[j] vs'[j] true
  | _, _, _, .nil, .nil => ⟨rfl, fun j h1 _ => absurd h1 (Nat.not_lt_zero _)⟩
  | _, _, _, .cons m1 T1, .cons m2 T2 => by
    obtain ⟨e, h⟩ := eqAt_tags N hu T1 T2
    refine ⟨congrArg (· + 1) e, fun j h1 h2 => ?_⟩
    match j, h1, h2 with
    | 0, _, _ => exact eqAt_one N m1 m2 hu
    | j + 1, h1, h2 => exact h j (Nat.lt_of_succ_lt_succ h1) (Nat.lt_of_succ_lt_succ h2)
theorem eqAt_tt {h₀ : Heap} {L : Addr} {l : List (Addr × Obj)} (N : News h₀ L s.heap l) {ps : List (Int × Int)} {a b : Addr} (T1 : TagsTup l ps a) (T2 : TagsTup l ps b) (hu : A.units + 1 < cLine) : SeqAt.EqAt A s (.ref a) (.ref b) true := by
  obtain ⟨vs, n, m1, T1⟩ := T1
  obtain ⟨vs', n', m2, T2⟩ := T2
  obtain ⟨e, h⟩ := eqAt_tags (A := A.in1) N hu T1 T2
  exact eqAt_tup (isTuple_of N m1) (isTuple_of N m2) (by rw [List.size_toArray, List.size_toArray, e]) (by first | decide | omega) fun j h1 h2 => h j _ _
theorem eqAt_kind {kd kd' : Value} {ln : Bool} (k1 : KindV kd ln) (k2 : KindV kd' ln) : SeqAt.EqAt A s kd kd' true := by
  cases ln with
  | true =>
    obtain rfl : kd = .none := k1
    obtain rfl : kd' = .none := k2
    exact SeqAt.EqAt.same _
  | false =>
    obtain ⟨t, rfl⟩ : ∃ t, kd = .int 2048 t := k1
    obtain ⟨u, rfl⟩ : ∃ t, kd' = .int 2048 t := k2
    exact eqAt_int _ _ _
theorem eqAt_told {h₀ : Heap} {L : Addr} {l : List (Addr × Obj)} (N : News h₀ L s.heap l) {ps : List (Int × Int)} {x y : Int} {tt uu : Addr} {kd kd' : Value} {ln : Bool} {b b' : Array UInt8} {t1 t2 tb u1 u2 ub : Tok} {ks : List Int} (T1 : TagsTup l ps tt) (T2 : TagsTup l ps uu) (k1 : KindV kd ln) (k2 : KindV kd' ln) (hb : KBw.bInts b = ks) (hb' : KBw.bInts b' = ks) (hu : A.units + 2 < cLine) :
    ∀ j (h1 : j < (#[.int x t1, .int y t2, .ref tt, kd, .bytes b tb] : Array Value).size) (h2 : j < (#[.int x u1, .int y u2, .ref uu, kd', .bytes b' ub] : Array Value).size), SeqAt.EqAt A.in1 s (#[.int x t1, .int y t2, .ref tt, kd, .bytes b tb] : Array Value)[j] (#[.int x u1, .int y u2, .ref uu, kd', .bytes b' ub] : Array Value)[j] true := by
  obtain rfl := bInts_inj (hb.trans hb'.symm)
  intro j h1 h2
  match j, h1, h2 with
  | 0, _, _ => exact eqAt_int _ _ _
  | 1, _, _ => exact eqAt_int _ _ _
  | 2, _, _ => exact eqAt_tt N T1 T2 hu
  | 3, _, _ => exact eqAt_kind k1 k2
  | 4, _, _ => exact eqAt_bytes _ _ _
  | n + 5, h, _ => exact absurd (show n + 5 < 5 from h) (by first | decide | omega)
theorem told_ne {prog : Program} {w : World} {E : Value → Shared → Prop} {Q : Value → Shared → Prop} {h₀ : Heap} {L : Addr} {l : List (Addr × Obj)} (N : News h₀ L s.heap l) {ps : List (Int × Int)} {x y : Int} {a c tt uu : Addr} {kd kd' : Value} {ln : Bool} {b b' : Array UInt8} {t1 t2 tb u1 u2 ub : Tok} {ks : List Int} {n n' : Nat}
    (m1 : (a, (⟨Value.type "tuple", none, Data.seq #[.int x t1, .int y t2, .ref tt, kd, .bytes b tb] n, #[]⟩ : Obj)) ∈ l) (m2 : (c, (⟨Value.type "tuple", none, Data.seq #[.int x u1, .int y u2, .ref uu, kd', .bytes b' ub] n', #[]⟩ : Obj)) ∈ l)
    (T1 : TagsTup l ps tt) (T2 : TagsTup l ps uu) (k1 : KindV kd ln) (k2 : KindV kd' ln) (hb : KBw.bInts b = ks) (hb' : KBw.bInts b' = ks) (hu : A.units + 2 < cLine) (hq : Q (.bool false) s) : wpAny (model prog w) A (compareOp .NotEq (.ref a) (.ref c)) Q E s :=
  rcNeAt_tup (isTuple_of N m1) (isTuple_of N m2) rfl (by first | decide | omega) (eqAt_told N T1 T2 k1 k2 hb hb' hu) prog w E Q hq
theorem told_eq {prog : Program} {w : World} {E : Value → Shared → Prop} {Q : Value → Shared → Prop} {h₀ : Heap} {L : Addr} {l : List (Addr × Obj)} (N : News h₀ L s.heap l) {ps : List (Int × Int)} {x y : Int} {a c tt uu : Addr} {kd kd' : Value} {ln : Bool} {b b' : Array UInt8} {t1 t2 tb u1 u2 ub : Tok} {ks : List Int} {n n' : Nat}
    (m1 : (a, (⟨Value.type "tuple", none, Data.seq #[.int x t1, .int y t2, .ref tt, kd, .bytes b tb] n, #[]⟩ : Obj)) ∈ l) (m2 : (c, (⟨Value.type "tuple", none, Data.seq #[.int x u1, .int y u2, .ref uu, kd', .bytes b' ub] n', #[]⟩ : Obj)) ∈ l)
    (T1 : TagsTup l ps tt) (T2 : TagsTup l ps uu) (k1 : KindV kd ln) (k2 : KindV kd' ln) (hb : KBw.bInts b = ks) (hb' : KBw.bInts b' = ks) (hu : A.units + 2 < cLine) (hq : Q (.bool true) s) : wpAny (model prog w) A (compareOp .Eq (.ref a) (.ref c)) Q E s :=
  rcAt_tup (isTuple_of N m1) (isTuple_of N m2) rfl (by first | decide | omega) (eqAt_told N T1 T2 k1 k2 hb hb' hu) prog w E Q hq
end
inductive UnpP (w : World) (x y : Int) (tgs : List (Int × Int)) (ln : Bool) (ks : List Int) (l : List (Addr × Obj)) (r : Value) (news' : List (Addr × Obj)) : Prop
  | mk (new) (f1 : news' = new ++ l) (z kd pb) (f2 : r = .ref z) (f3 : FrameIn w new z x y tgs kd pb) (f4 : KindV kd ln) (f5 : KBw.bInts pb = payB ln tgs.length ks)
theorem heard_ok {dn un' : Nat} {f c' : Addr} {Post : Value → List (Addr × Obj) → Prop} {qual : Str} {prm : Arguments} {lb : PySem.Expr} {sc : Scope} {cl : List (Str × Addr)} {pm ctv : Value} (XB : (Lw.head.heap_1 w.params).In base) (TB : Top p loose mean mg mb base) (hf : (f, kla_obj "<lambda>" qual prm lb sc cl pm c' ctv) ∈ news)
    (C : Con w base dn un' f [] news Post (fun _ => False)) : Con w base (dn + 20) (un' + 200) 338 [.ref f] news Post (fun _ => False) := by
  w_on
  k_dflt (refine' con_defQ (binds := [(Str.ofString "call", .ref f)]) XB TB ?ho ?hcd ?hb ?hl ?hn ?_ ?c1 ?c2 ?c3 ?c4)
  case ho => k_is
  case hcd => k_is
  case hb => intro _ _; first | exact BindsTo.of_eq rfl | exact binds_K (by assumption) rfl (by k_is) rfl rfl rfl
  case hl => exact locs rfl
  case hn => first | decide | omega
  case c1 => decide
  case c2 => rfl
  case c3 => rfl
  case c4 => rfl
  intro dp un gd l sh9 sg9 sd9 sk9 so9 g L' h' Q1 E1 hdp hun AN F' N' l1 B' D' X' T' TT hQ1 hE1
  (try dsimp only)
  (try k_fold)
  (all_goals (repeat ((with_reducible refine OQ.use (by assumption) ?_); (try dsimp only))))
  w_strict (k_steps)
  (all_goals (repeat ((with_reducible refine OQ.use (by assumption) ?_); (try dsimp only))))
  k_dflt (refine callWith_F0 (FnAt.of (by k_asm) hf) (stop_ ?_))
  refine Stop.mk ?_
  k_dflt (refine' con_step C (by assumption) (by k_asm) (by k_asm) (by assumption) rfl rfl rfl ?hd ?hu ?hesc ?hret)
  case hd => dsimp only; omega
  case hu => dsimp only; omega
  case hesc => exact fun _ _ _ _ q _ => q.elim
  case hret =>
    intro r9 h' tk' news' F' N' P9
    (try k_sweep)
    (try dsimp only)
    k_steps
    (all_goals (repeat ((with_reducible refine OQ.use (by assumption) ?_); (try dsimp only))))
    exact end_c F' N' TT P9
theorem heard_okU {dn un' : Nat} {f c' : Addr} {x y : Int} {tgs : List (Int × Int)} {ln : Bool} {ks : List Int} {qual : Str} {prm : Arguments} {lb : PySem.Expr} {sc : Scope} {cl : List (Str × Addr)} {pm ctv : Value} (XB : (Lw.head.heap_1 w.params).In base) (TB : Top p loose mean mg mb base) (hf : (f, kla_obj "<lambda>" qual prm lb sc cl pm c' ctv) ∈ news)
    (C : Con w base dn un' f [] news (UnpP w x y tgs ln ks news) (fun _ => False)) : Con w base (dn + 20) (un' + 200) 338 [.ref f] news (UnpP w x y tgs ln ks news) (fun _ => False) := heard_ok XB TB hf C
theorem meets_str_inst (b : Str) (u : Tok) (x C : Addr) (dd : Option Addr) (sl : Array (Option Value)) :
    Meets (Builtin.«str.__eq__» ⟨[.str b u, .ref x], []⟩) (fun _ R s => s.heap.get? x = some { cls := .ref C, dict := dd, data := .plain, slots := sl } ∧ R (.ok (.ret .notImplemented)) s) :=
  .of_wp fun prog w A R s h => by obtain ⟨hp, g, d, tk, os⟩ := s; obtain ⟨hl, h⟩ := h; wp_walk using AutoSeq1.wpAny_loadPart' hl, wpAny_load hl; exact ⟨_, rfl, h⟩
theorem objeq_entry {M : Model} {A : Around} {E : Value → Shared → Prop} {s : Shared} {x : Addr} {a : Str} {t : Tok} {Q : Fin → Shared → Prop} (hq : Q (.done (.ret .notImplemented)) s) : wpAny M A (Builtin.«object.__eq__» ⟨[.ref x, .str a t], []⟩) Q E s := by
  unfold Builtin.«object.__eq__»
  repeat (first | with_reducible refine wpAny_isSame_plain rfl ?_ | wp_step)
  exact hq
section
variable {prog : Program} {w : World} {A : Around} {E : Value → Shared → Prop} {s : Shared} {K : Frag} {x C : Addr} {ox : Obj} {od : Option Addr} {a : Str} {t : Tok}
theorem objeq_check {M : Model} {Q : Unit → Shared → Prop} {od : Obj} (X : K.In s.heap) (I : InstAt s.heap x ox C od) (hso : subIn K (.ref C) (.type "object") = some true) (hq : Q () s) : wpAny M A (checkBuiltinCall "object.__eq__" ⟨[.ref x, .str a t], []⟩) Q E s := by
  have ha := F.cmpArgs_eq (.ref x) (.str a t)
  simp only [checkBuiltinCall, F.cmpKind_eq, F.cmpSplit_eq]
  (all_goals (repeat ((with_reducible refine OQ.use (by assumption) ?_); (try dsimp only))))
  refine wpAny_bind ?_
  unfold isInstance
  (all_goals (repeat ((with_reducible refine OQ.use (by assumption) ?_); (try dsimp only))))
  refine wpAny_bind (I.type.here ((looks_subIn X hso).here ?_))
  cases hsig : Manifest.signature? "object.__eq__" with
  | none => exact wpAny_pure hq
  | some sig =>
    simp only [argsOk, hsig] at ha
    have h2 : Bind.checkArgs "object.__eq__" sig ⟨[.ref x, .str a t], []⟩ = pure () := ha
    show wpAny M A (Bind.checkArgs "object.__eq__" sig ⟨[.ref x, .str a t], []⟩) Q E _
    rw [h2]; exact wpAny_pure hq
theorem objeq_call {Q : Value → Shared → Prop} {od : Obj} (X : K.In s.heap) (I : InstAt s.heap x ox C od) (hso : subIn K (.ref C) (.type "object") = some true) (hq : Q .notImplemented s) : wpAny (model prog w) A (call (.builtin "object.__eq__") [.ref x, .str a t]) Q E s :=
  wpAny_call (codeAny_call_builtin F.cmp_object.eq.plain F.cmpEntry_eq (objeq_check X I hso (objeq_entry hq)))
theorem objeq_try {Q : Option Value → Shared → Prop} {od : Obj} (X : K.In s.heap) (I : InstAt s.heap x ox C od) (hs : findIn K (.ref C) "__eq__" = some (some (.builtin "object.__eq__"))) (hso : subIn K (.ref C) (.type "object") = some true) (hq : Q none s) : wpAny (model prog w) A (tryCompare (.ref x) "__eq__" (.str a t)) Q E s := by
  unfold tryCompare
  (all_goals (repeat ((with_reducible refine OQ.use (by assumption) ?_); (try dsimp only))))
  refine wpAny_bind ?_
  simp only [callSpecialIfBound?, bindSpecialIfBound?]
  (all_goals (repeat ((with_reducible refine OQ.use (by assumption) ?_); (try dsimp only))))
  refine wpAny_holding (wpAny_bind (wpAny_bind (wpAny_bind (I.type.here ((looks_findIn X hs).here ?_)))))
  simp only [F.cmp_object.eq.bind]
  (all_goals (repeat ((with_reducible refine OQ.use (by assumption) ?_); (try dsimp only))))
  refine wpAny_bind (wpAny_askSetting (wpAny_ite ?_))
  have fin : wpAny (model prog w) A (call (.builtin "object.__eq__") ([.ref x] ++ [.str a t]) >>= fun v => pure (some v)) (fun a s' => wpAny (model prog w) A (match a with | some .notImplemented | none => pure none | some v => pure (some v)) Q E s') E s :=
    wpAny_bind (objeq_call X I hso (wpAny_pure (wpAny_pure hq)))
  split
  · (all_goals (repeat ((with_reducible refine OQ.use (by assumption) ?_); (try dsimp only))))
    exact wpAny_bind (wpAny_pure (wpAny_pure fin))
  · (all_goals (repeat ((with_reducible refine OQ.use (by assumption) ?_); (try dsimp only))))
    exact wpAny_tryCatch (wpAny_bind (wpAny_pure (wpAny_pure fin)))
theorem inst_eq_str {Q : Value → Shared → Prop} {od : Obj} {dd : Option Addr} {sl : Array (Option Value)} (hu : A.units < cLine) (X : K.In s.heap) (I : InstAt s.heap x ox C od) (ho : s.heap.get? x = some { cls := .ref C, dict := dd, data := .plain, slots := sl }) (hs : findIn K (.ref C) "__eq__" = some (some (.builtin "object.__eq__"))) (hso : subIn K (.ref C) (.type "object") = some true) (hsub : subIn K (.type "str") (.ref C) = some false)
    (h : Q (.bool false) s) : wpAny (model prog w) A (compareOp .Eq (.ref x) (.str a t)) Q E s := by
  show wpAny _ A (richCompare .Eq _ _) Q E s
  unfold richCompare
  simp only [oneThing_ref]
  (all_goals (repeat ((with_reducible refine OQ.use (by assumption) ?_); (try dsimp only))))
  refine wpAny_holding (wpAny_bind (wpAny_cRoomFor hu ?_))
  (all_goals (repeat ((with_reducible refine OQ.use (by assumption) ?_); (try dsimp only))))
  refine wpAny_bind (I.type.here (wpAny_bind ((Looks.of_pure (r := Value.type "str") rfl).here ?_)))
  rw [if_pos (by simp)]
  (all_goals (repeat ((with_reducible refine OQ.use (by assumption) ?_); (try dsimp only))))
  refine wpAny_bind ((looks_subIn X hsub).here ?_)
  simp only [Bool.false_eq_true, if_false]
  (all_goals (repeat ((with_reducible refine OQ.use (by assumption) ?_); (try dsimp only))))
  refine wpAny_bind (objeq_try X I hs hso ?_)
  simp only [Bool.not_false, if_true]
  (all_goals (repeat ((with_reducible refine OQ.use (by assumption) ?_); (try dsimp only))))
  refine wpAny_bind (wpAny_tryCompare_declines (typeIs_str _ _ _) F.slot_str_eq_refl (call_meets F.slot_str_eq (typeIs_str _ _ _) F.entry_str_eq (F.args_str_eq_2 _ _) (meets_str_inst a t x C dd sl) ⟨ho, rfl, ?_⟩))
  (all_goals (repeat ((with_reducible refine OQ.use (by assumption) ?_); (try dsimp only))))
  exact wpAny_bind (wpAny_rule (wpAny_bind (wpAny_isSame_plain rfl (wpAny_pure h))))
theorem meets_str_inst_ne (b : Str) (u : Tok) (x C : Addr) (dd : Option Addr) (sl : Array (Option Value)) :
    Meets (Builtin.«str.__ne__» ⟨[.str b u, .ref x], []⟩) (fun _ R s => s.heap.get? x = some { cls := .ref C, dict := dd, data := .plain, slots := sl } ∧ R (.ok (.ret .notImplemented)) s) :=
  .of_wp fun prog w A R s h => by obtain ⟨hp, g, d, tk, os⟩ := s; obtain ⟨hl, h⟩ := h; wp_walk using AutoSeq1.wpAny_loadPart' hl, wpAny_load hl; exact ⟨_, rfl, h⟩
theorem objeq_special {Q : Option Value → Shared → Prop} {od : Obj} (X : K.In s.heap) (I : InstAt s.heap x ox C od) (hs : findIn K (.ref C) "__eq__" = some (some (.builtin "object.__eq__"))) (hso : subIn K (.ref C) (.type "object") = some true) (hq : Q (some .notImplemented) s) : wpAny (model prog w) A (callSpecialIfBound? (.ref x) "__eq__" [.str a t]) Q E s := by
  simp only [callSpecialIfBound?, bindSpecialIfBound?]
  (all_goals (repeat ((with_reducible refine OQ.use (by assumption) ?_); (try dsimp only))))
  refine wpAny_holding (wpAny_bind (wpAny_bind (wpAny_bind (I.type.here ((looks_findIn X hs).here ?_)))))
  simp only [F.cmp_object.eq.bind]
  (all_goals (repeat ((with_reducible refine OQ.use (by assumption) ?_); (try dsimp only))))
  refine wpAny_bind (wpAny_askSetting (wpAny_ite ?_))
  have fin : wpAny (model prog w) A (call (.builtin "object.__eq__") ([.ref x] ++ [.str a t]) >>= fun v => pure (some v)) Q E s :=
    wpAny_bind (objeq_call X I hso (wpAny_pure hq))
  split
  · (all_goals (repeat ((with_reducible refine OQ.use (by assumption) ?_); (try dsimp only))))
    exact wpAny_bind (wpAny_pure (wpAny_pure fin))
  · (all_goals (repeat ((with_reducible refine OQ.use (by assumption) ?_); (try dsimp only))))
    exact wpAny_tryCatch (wpAny_bind (wpAny_pure (wpAny_pure fin)))
theorem objne_check {M : Model} {Q : Unit → Shared → Prop} {od : Obj} (X : K.In s.heap) (I : InstAt s.heap x ox C od) (hso : subIn K (.ref C) (.type "object") = some true) (hq : Q () s) : wpAny M A (checkBuiltinCall "object.__ne__" ⟨[.ref x, .str a t], []⟩) Q E s := by
  have ha := F.cmpArgs_ne (.ref x) (.str a t)
  simp only [checkBuiltinCall, F.cmpKind_ne, F.cmpSplit_ne]
  (all_goals (repeat ((with_reducible refine OQ.use (by assumption) ?_); (try dsimp only))))
  refine wpAny_bind ?_
  unfold isInstance
  (all_goals (repeat ((with_reducible refine OQ.use (by assumption) ?_); (try dsimp only))))
  refine wpAny_bind (I.type.here ((looks_subIn X hso).here ?_))
  cases hsig : Manifest.signature? "object.__ne__" with
  | none => exact wpAny_pure hq
  | some sig =>
    simp only [argsOk, hsig] at ha
    have h2 : Bind.checkArgs "object.__ne__" sig ⟨[.ref x, .str a t], []⟩ = pure () := ha
    show wpAny M A (Bind.checkArgs "object.__ne__" sig ⟨[.ref x, .str a t], []⟩) Q E _
    rw [h2]; exact wpAny_pure hq
theorem objne_entry {Q : Fin → Shared → Prop} {od : Obj} (hu : A.units < cLine) (X : K.In s.heap) (I : InstAt s.heap x ox C od) (hs : findIn K (.ref C) "__eq__" = some (some (.builtin "object.__eq__"))) (hso : subIn K (.ref C) (.type "object") = some true) (hq : Q (.done (.ret .notImplemented)) s) : wpAny (model prog w) A (Builtin.«object.__ne__» ⟨[.ref x, .str a t], []⟩) Q E s := by
  unfold Builtin.«object.__ne__»
  repeat (first | with_reducible refine wpAny_cRoomFor hu ?_ | with_reducible refine objeq_special X I hs hso ?_ | wp_step)
  exact hq
theorem objne_try {Q : Option Value → Shared → Prop} {od : Obj} (hu : A.units + 1 < cLine) (X : K.In s.heap) (I : InstAt s.heap x ox C od) (hs : findIn K (.ref C) "__eq__" = some (some (.builtin "object.__eq__"))) (hsn : findIn K (.ref C) "__ne__" = some (some (.builtin "object.__ne__"))) (hso : subIn K (.ref C) (.type "object") = some true) (hq : Q none s) : wpAny (model prog w) A (tryCompare (.ref x) "__ne__" (.str a t)) Q E s := by
  unfold tryCompare
  (all_goals (repeat ((with_reducible refine OQ.use (by assumption) ?_); (try dsimp only))))
  refine wpAny_bind ?_
  simp only [callSpecialIfBound?, bindSpecialIfBound?]
  (all_goals (repeat ((with_reducible refine OQ.use (by assumption) ?_); (try dsimp only))))
  refine wpAny_holding (wpAny_bind (wpAny_bind (wpAny_bind (I.type.here ((looks_findIn X hsn).here ?_)))))
  simp only [F.cmp_object.ne.bind]
  (all_goals (repeat ((with_reducible refine OQ.use (by assumption) ?_); (try dsimp only))))
  refine wpAny_bind (wpAny_askSetting (wpAny_ite ?_))
  have fin : wpAny (model prog w) A (call (.builtin "object.__ne__") ([.ref x] ++ [.str a t]) >>= fun v => pure (some v)) (fun a s' => wpAny (model prog w) A (match a with | some .notImplemented | none => pure none | some v => pure (some v)) Q E s') E s :=
    wpAny_bind (wpAny_call (codeAny_call_builtin F.cmp_object.ne.plain F.cmpEntry_ne (objne_check X I hso (objne_entry (A := A.in1) hu X I hs hso (wpAny_pure (wpAny_pure hq))))))
  split
  · (all_goals (repeat ((with_reducible refine OQ.use (by assumption) ?_); (try dsimp only))))
    exact wpAny_bind (wpAny_pure (wpAny_pure fin))
  · (all_goals (repeat ((with_reducible refine OQ.use (by assumption) ?_); (try dsimp only))))
    exact wpAny_tryCatch (wpAny_bind (wpAny_pure (wpAny_pure fin)))
theorem inst_ne_str {Q : Value → Shared → Prop} {od : Obj} {dd : Option Addr} {sl : Array (Option Value)} (hu : A.units + 1 < cLine) (X : K.In s.heap) (I : InstAt s.heap x ox C od) (ho : s.heap.get? x = some { cls := .ref C, dict := dd, data := .plain, slots := sl }) (hs : findIn K (.ref C) "__eq__" = some (some (.builtin "object.__eq__"))) (hsn : findIn K (.ref C) "__ne__" = some (some (.builtin "object.__ne__"))) (hso : subIn K (.ref C) (.type "object") = some true) (hsub : subIn K (.type "str") (.ref C) = some false)
    (h : Q (.bool true) s) : wpAny (model prog w) A (compareOp .NotEq (.ref x) (.str a t)) Q E s := by
  show wpAny _ A (richCompare .NotEq _ _) Q E s
  unfold richCompare
  simp only [oneThing_ref]
  (all_goals (repeat ((with_reducible refine OQ.use (by assumption) ?_); (try dsimp only))))
  refine wpAny_holding (wpAny_bind (wpAny_cRoomFor (by first | decide | omega) ?_))
  (all_goals (repeat ((with_reducible refine OQ.use (by assumption) ?_); (try dsimp only))))
  refine wpAny_bind (I.type.here (wpAny_bind ((Looks.of_pure (r := Value.type "str") rfl).here ?_)))
  rw [if_pos (by simp)]
  (all_goals (repeat ((with_reducible refine OQ.use (by assumption) ?_); (try dsimp only))))
  refine wpAny_bind ((looks_subIn X hsub).here ?_)
  simp only [Bool.false_eq_true, if_false]
  (all_goals (repeat ((with_reducible refine OQ.use (by assumption) ?_); (try dsimp only))))
  refine wpAny_bind (objne_try hu X I hs hsn hso ?_)
  simp only [Bool.not_false, if_true]
  (all_goals (repeat ((with_reducible refine OQ.use (by assumption) ?_); (try dsimp only))))
  refine wpAny_bind (wpAny_tryCompare_declines (typeIs_str _ _ _) F.slot_str_ne_refl (call_meets F.slot_str_ne (typeIs_str _ _ _) F.entry_str_ne (F.args_str_ne_2 _ _) (meets_str_inst_ne a t x C dd sl) ⟨ho, rfl, ?_⟩))
  (all_goals (repeat ((with_reducible refine OQ.use (by assumption) ?_); (try dsimp only))))
  exact wpAny_bind (wpAny_rule (wpAny_bind (wpAny_isSame_plain rfl (wpAny_pure h))))
end
theorem sub_str_bytes9 : isSubtype (.type "str") (.type "bytes") = pure false := by rw [isSubtype_type]; kernel_rfl
theorem bytes_decl_str (b : Array UInt8) (t : Tok) (a : Str) (u : Tok) : Gives (Builtin.«bytes.__eq__» ⟨[.bytes b t, .str a u], []⟩) (.val (Value.notImplemented)) :=
  .of_wp fun M A E s Q h => by obtain ⟨hp, g, d, tk, os⟩ := s; wp_walk using wpAny_of_eq sub_str_bytes9; exact ⟨_, rfl, h⟩
theorem str_decl_bytes (b : Array UInt8) (t : Tok) (a : Str) (u : Tok) : Gives (Builtin.«str.__eq__» ⟨[.str a u, .bytes b t], []⟩) (.val (Value.notImplemented)) :=
  .of_wp fun M A E s Q h => by obtain ⟨hp, g, d, tk, os⟩ := s; wp_walk; exact ⟨_, rfl, h⟩
theorem bytes_eq_str {prog : Program} {w : World} {A : Around} {E : Value → Shared → Prop} {s : Shared} {b : Array UInt8} {t : Tok} {a : Str} {u : Tok} {Q : Value → Shared → Prop} (h : Q (.bool false) s) : wpAny (model prog w) A (compareOp .Eq (.bytes b t) (.str a u)) Q E s := by
  show wpAny _ A (richCompare .Eq _ _) Q E s
  exact EqNone.wpAny_richCompare_eq_decline (k := false) (fun s' => PySem.W.typeIs_bytes s' b t) (fun s' => typeIs_str s' a u) (by decide) (by rw [isSubtype_type]; kernel_rfl) FB.slot_bytes_eq F.slot_str_eq_refl rfl
    (call_gives FB.slot_bytes_eq (PySem.W.typeIs_bytes s b t) FB.entry_bytes_eq (FB.args_bytes_eq_2 _ _) (bytes_decl_str b t a u)
      ⟨rfl, call_gives F.slot_str_eq_refl (typeIs_str s a u) F.entry_str_eq (F.args_str_eq_2 _ _) (str_decl_bytes b t a u) ⟨rfl, h⟩⟩)
section
variable {prog : Program} {w : World} {A : Around} {E : Value → Shared → Prop} {s : Shared} {h₀ : Heap} {L x dx : Addr} {m : Str → Option Value} {ox od : Obj} {a : Str} {t : Tok} {news : List (Addr × Obj)}
theorem fr_eq_str {Q : Value → Shared → Prop} (hu : A.units < cLine) (F : Fr h₀ L s.heap m) (N : News h₀ L s.heap news) (X₀ : (Lw.head.heap_1 w.params).In h₀) (hm : (x, instObj 264 dx) ∈ news) (I : InstAt s.heap x ox 264 od) (h : Q (.bool false) s) : wpAny (model prog w) A (compareOp .Eq (.ref x) (.str a t)) Q E s :=
  inst_eq_str hu (X₀.keeps F.keep) I (N _ hm).1 (by k_is) (by k_is) (by k_is) h
theorem fr_ne_str {Q : Value → Shared → Prop} (hu : A.units + 1 < cLine) (F : Fr h₀ L s.heap m) (N : News h₀ L s.heap news) (X₀ : (Lw.head.heap_1 w.params).In h₀) (hm : (x, instObj 264 dx) ∈ news) (I : InstAt s.heap x ox 264 od) (h : Q (.bool true) s) : wpAny (model prog w) A (compareOp .NotEq (.ref x) (.str a t)) Q E s :=
  inst_ne_str hu (X₀.keeps F.keep) I (N _ hm).1 (by k_is) (by k_is) (by k_is) (by k_is) h
end
end
local macro_rules | `(tactic| walk_at "call builtin:len") => `(tactic| (k_here; (with_reducible show wpAny _ _ (call (Value.builtin "len") [Value.ref _]) _ _ _); k_dflt (refine tup_len (by k_asm) (by k_mem) (by assumption) (by assumption) ?_); (try dsimp only)))
local macro_rules | `(tactic| walk_at "compareOp NotEq int int") => `(tactic| (k_here; k_dflt (refine ne_int_same (by first | rfl | exact Eq.trans (by assumption) (mx_ite _ _) | exact mx_ite _ _ | omega | (split <;> omega)) ?_)))
local macro_rules | `(tactic| walk_at "subscriptTail Name Slice ref ref") => `(tactic| (k_here; (with_reducible show wpAny _ _ (subscriptTail _ (PySem.Expr.Slice _ _ none _) (Value.ref _) (Value.ref _)) _ _ _); k_dflt (refine' sl4_walk ?zF ?zN ?zl ?_ ?zs ?zt; (case zF => k_asm); (case zN => k_asm); (case zl => k_mem); (case zs => with_unfolding_all rfl); (case zt => kmk_pure)); intro D8 h8 F8 N8 l8; (try k_lt l8); (try k_sweep); (try dsimp only)))
local macro_rules | `(tactic| walk_at "exec For Name List cons nil") => `(tactic| (k_here; (rename Fr _ _ _ _ => lF'); (with_unfolding_all refine' For_turns lF' ?_; k_whole)))
local macro_rules | `(tactic| walk_at "compareOp NotEq ref ref") => `(tactic| (refine stop_ ?_))
local macro_rules | `(tactic| walk_at "compareOp Eq ref ref") => `(tactic| (refine stop_ ?_))
local macro_rules | `(tactic| walk_at "compareOp Eq ref str") => `(tactic| (k_here; k_dflt (refine fr_eq_str (by first | (dsimp only [Around.deeper, At]; omega) | exact Nat.le_of_ble_eq_true rfl) (by k_asm) (by k_asm) (by k_asm) (by k_mem) (by k_inst) ?_)))
local macro_rules | `(tactic| walk_at "compareOp NotEq ref str") => `(tactic| (k_here; k_dflt (refine fr_ne_str (by (dsimp only [Around.deeper, At]; omega)) (by k_asm) (by k_asm) (by k_asm) (by k_mem) (by k_inst) ?_)))
local macro_rules | `(tactic| walk_at "compareOp Eq bytes str") => `(tactic| (k_here; k_dflt (refine bytes_eq_str ?_)))
section
variable {w : World} {p : Program} {loose : List Str} {mean : ExcName → Option Value} {mg mb : Str → Option Value} {base : Heap} {news : List (Addr × Obj)}
theorem allobj_mono {k k' : List (Addr × Obj) → Prop} : ∀ {ws : List (Addr × String)}, (∀ its, k its → k' its) → AllObj ws k → AllObj ws k'
  | [], h, x => h _ x
  | _ :: _, h, x => fun o ho => allobj_mono (fun its y => h _ y) (x o ho)
abbrev up2 (a b : Str) (m : Str → Option Value) (oa ob : Option Value) : Str → Option Value := fun y => if y = a then oa else if y = b then ob else m y
theorem up2_first (a b : Str) (m : Str → Option Value) : m = up2 a b m (m a) (m b) := by
  funext y
  show m y = if y = a then m a else if y = b then m b else m y
  split
  · rename_i h; rw [h]
  · split
    · rename_i h; rw [h]
    · rfl
theorem up2_next {a b : Str} {m : Str → Option Value} {oa ob va vb : Option Value} : (fun y => if y = a then va else if y = b then vb else up2 a b m oa ob y) = up2 a b m va vb := by
  funext y
  show (if y = a then va else if y = b then vb else if y = a then oa else if y = b then ob else m y) = if y = a then va else if y = b then vb else m y
  split
  · rfl
  · split <;> rfl
theorem up2_next1 {a b : Str} {m : Str → Option Value} {oa ob va : Option Value} : (fun y => if y = a then va else up2 a b m oa ob y) = up2 a b m va ob := by
  funext y
  show (if y = a then va else if y = a then oa else if y = b then ob else m y) = if y = a then va else if y = b then ob else m y
  split <;> rfl
theorem items_ind {prog : Program} {A : Around} {E : Value → Shared → Prop} {s : Shared} {env : Env} {h₀ : Heap} {target : Expr} {body : List Stmt} {Q : Flow → Shared → Prop} {ws : List (Addr × String)} {keep : List (Addr × Obj)} (P : (Str → Option Value) → List (Addr × Obj) → Prop) (V : Value → Prop)
    (hz : ∀ m news, P m news → ∀ h tk, Fr h₀ env.locals h m → News h₀ env.locals h news → Q .next { s with heap := h, toks := tk })
    (hs : ∀ v m news, V v → P m news → ∀ h tk, Fr h₀ env.locals h m → AllObj ws (fun its => News h₀ env.locals h (its ++ news) →
      wpAny (model prog w) A (assign target env v) (fun _ s₂ => wpAny (model prog w) A (execs body env) (UnrPostW h₀ env.locals { s with heap := h, toks := tk } its (fun m' n' => SubL keep n' ∧ P m' n') Q) E s₂) E { s with heap := h, toks := tk })) :
    ∀ (xs : List Itm) (m : Str → Option Value) (news : List (Addr × Obj)), (∀ a ∈ xs, ∃ v, a = .val v ∧ V v) → P m news → ItemsRest prog w A E h₀ env target body Q s ws keep xs m news := by
  intro xs
  induction xs with
  | nil => exact fun m news _ p => hz m news p
  | cons a r ih =>
    intro m news hv p
    obtain ⟨v, rfl, hV⟩ := hv a (.head _)
    refine ItemsRest.val fun h tk F => allobj_mono (fun its k N => ?_) (hs v m news hV p h tk F)
    (all_goals (repeat ((with_reducible refine OQ.use (by assumption) ?_); (try dsimp only))))
    exact wpAny_mono (k N) (fun _ s₂ y => wpAny_mono y (fun f s₃ z => unrPostW_mono (fun m' n' q => ⟨q.1, ih m' n' (fun b hb => hv b (.tail _ hb)) q.2⟩) z) fun _ _ z => z) fun _ _ z => z
inductive PM (n1 n2 : Str) (m0 : Str → Option Value) (a b c d : Addr × Obj) (ae : Addr) (f : Addr × Obj) (nt news : List (Addr × Obj)) (qual : Str) (EX : List (Addr × Obj) → Prop) (m : Str → Option Value) (n : List (Addr × Obj)) : Prop
  | mk (oa ob oe ce ps ex) (f1 : oe.data = Data.cell ce) (f2 : m = up2 n1 n2 m0 oa ob) (f3 : n = a :: b :: c :: d :: (ae, oe) :: f :: (359, tabObj ps) :: (nt ++ (ex ++ news))) (f4 : TabGood qual ps (ex ++ news)) (f5 : EX ex)
theorem most_ind {prog : Program} {A : Around} {E : Value → Shared → Prop} {s : Shared} {env : Env} {h₀ : Heap} {target : Expr} {body : List Stmt} {Q : Flow → Shared → Prop} {ws : List (Addr × String)} {keep : List (Addr × Obj)} {a b c d : Addr × Obj} {ae : Addr} {oe : Obj} {ce : Option Value} {f : Addr × Obj} {nt news : List (Addr × Obj)} {qual : Str} {ps : Array Value} {xs : List Itm} {m0 : Str → Option Value} (n1 n2 : Str) (V : Value → Prop) (EX : List (Addr × Obj) → Prop)
    (hV : ∀ a ∈ xs, ∃ v, a = .val v ∧ V v) (TG : TabGood qual ps news) (E0 : EX []) (hoe : oe.data = Data.cell ce)
    (hs : ∀ v oa ob oe ce ps ex, V v → oe.data = Data.cell ce → TabGood qual ps (ex ++ news) → EX ex → ∀ h tk, Fr h₀ env.locals h (up2 n1 n2 m0 oa ob) → AllObj ws (fun its => News h₀ env.locals h (its ++ (a :: b :: c :: d :: (ae, oe) :: f :: (359, tabObj ps) :: (nt ++ (ex ++ news)))) →
      wpAny (model prog w) A (assign target env v) (fun _ s₂ => wpAny (model prog w) A (execs body env) (UnrPostW h₀ env.locals { s with heap := h, toks := tk } its (fun m' n' => SubL keep n' ∧ PM n1 n2 m0 a b c d ae f nt news qual EX m' n') Q) E s₂) E { s with heap := h, toks := tk }))
    (hz : ∀ oa ob oe ce ps ex, oe.data = Data.cell ce → TabGood qual ps (ex ++ news) → EX ex → ∀ h tk, Fr h₀ env.locals h (up2 n1 n2 m0 oa ob) → News h₀ env.locals h (a :: b :: c :: d :: (ae, oe) :: f :: (359, tabObj ps) :: (nt ++ (ex ++ news))) → Q .next { s with heap := h, toks := tk }) :
    ItemsRest prog w A E h₀ env target body Q s ws keep xs m0 (a :: b :: c :: d :: (ae, oe) :: f :: (359, tabObj ps) :: (nt ++ news)) :=
  items_ind (PM n1 n2 m0 a b c d ae f nt news qual EX) V (fun m n p h tk F N => by
    obtain ⟨oa, ob, oe, ce, ps, ex, ho, rfl, rfl, t, x⟩ := p
    exact hz oa ob oe ce ps ex ho t x h tk F N) (fun v m n hv p h tk F => by
    obtain ⟨oa, ob, oe, ce, ps, ex, ho, rfl, rfl, t, x⟩ := p
    exact hs v oa ob oe ce ps ex hv ho t x h tk F) xs m0 _ hV ⟨_, _, oe, ce, ps, [], hoe, up2_first n1 n2 m0, rfl, TG, E0⟩
set_option maxHeartbeats 3000000 in
inductive Pmost_con (news : List (Addr × Obj)) (sa : Addr) (r : Value) (news' : List (Addr × Obj)) : Prop
  | mk (so' ps' ex) (f1 : r = .bool true) (f2 : Src so') (f3 : TabGood (qualL (Str.ofString "_law_most_right")) ps' (ex ++ news)) (f4 : news' = (sa, so') :: (359, tabObj ps') :: (ex ++ news)) (f5 : ∀ q ∈ ex, sa < q.1 ∧ ∀ z ∈ news, z.1 < q.1)
theorem most_con (XB : (Lw.head.heap_1 w.params).In base) (TB : Top p loose mean mg mb base) (CH : CodeHd base 363 359) (sa : Addr) (so : Obj) (ps : Array Value) (hs : Src so) (TG : TabGood (qualL (Str.ofString "_law_most_right")) ps news) (hoff : ∀ p ∈ news, p.1 ≠ sa) (hofP : ∀ p ∈ news, p.1 ≠ 359) (hPs : @LT.lt Nat _ 359 sa) :
    ConT w base 400 4000 364 [.ref sa] ((sa, so) :: (359, tabObj ps) :: news) (Pmost_con news sa) (fun _ => False) := by
  w_on
  k_dflt (refine' conT_defCQ (binds := [(Str.ofString "source", .ref sa)]) XB TB ?ho ?hcd ?hb ?hl ?hnd ?hn ?_ ?c2 ?c3 ?c4)
  case ho => k_is
  case hcd => k_is
  case hb => intro _ _; first | exact BindsTo.of_eq rfl | exact binds_K (by assumption) rfl (by k_is) rfl rfl rfl
  case hl => exact rfl
  case hnd => decide +kernel
  case hn => first | decide | omega
  case c2 => rfl
  case c3 => rfl
  case c4 => rfl
  intro dp un gd l sh9 sg9 sd9 sk9 so9 g L' h' tk' cells' Q1 E1 hdp hun AN F' N' Y' l1 B' D' X' T' TT hQ1 hE1
  revert N'
  first | (k_dflt (refine cells1 (G := fun cc9 => News _ _ _ (cc9 ++ _) → _) Y' ?_); intro oc1 dc1) | (k_dflt (refine cells2 (G := fun cc9 => News _ _ _ (cc9 ++ _) → _) Y' ?_); intro oc1 oc2 dc1 dc2) | (k_dflt (refine cells3 (G := fun cc9 => News _ _ _ (cc9 ++ _) → _) Y' ?_); intro oc1 oc2 oc3 dc1 dc2 dc3) | (k_dflt (refine cells4 (G := fun cc9 => News _ _ _ (cc9 ++ _) → _) Y' ?_); intro oc1 oc2 oc3 oc4 dc1 dc2 dc3 dc4) | (k_dflt (refine cells5 (G := fun cc9 => News _ _ _ (cc9 ++ _) → _) Y' ?_); intro oc1 oc2 oc3 oc4 oc5 dc1 dc2 dc3 dc4 dc5)
  intro N'
  clear Y'
  (try dsimp only [List.cons_append, List.nil_append] at N')
  (try dsimp only)
  (try k_fold)
  have hsaL : @LT.lt Nat _ sa L' := l1 _ (.head _)
  have hPL : @LT.lt Nat _ 359 L' := Nat.lt_trans hPs hsaL
  have hnL : ∀ p ∈ news, p.1 < L' := fun p hp => l1 p (List.mem_cons_of_mem _ (List.mem_cons_of_mem _ hp))
  (all_goals (repeat ((with_reducible refine OQ.use (by assumption) ?_); (try dsimp only))))
  w_strict (k_steps)
  (all_goals (repeat ((with_reducible refine OQ.use (by assumption) ?_); (try dsimp only))))
  refine Stop.mk ?_
  refine opk (fun K9 hK9 => ?_)
  k_dflt (refine' take_k XB TB (by assumption) (by k_asm) (by k_asm) (by repeat (first | exact Pull.head _ | apply Pull.tail)) (by assumption) rfl rfl rfl ?hd173 ?hu173 ?hs ?h0173 ?h1173 ?off173 ?hret173)
  case hs => assumption
  case h0173 => first | decide | omega
  case h1173 => first | decide | omega
  case hd173 => (dsimp only; first | exact dstep1 hdp rfl | exact dstep hdp rfl | omega)
  case hu173 => (dsimp only; first | exact dstep hun rfl | exact dstep1 hun rfl | omega)
  case off173 => ((repeat (first | (with_reducible assumption) | (with_reducible refine offc ?_ ?_; k_ne) | (with_reducible refine List.forall_mem_cons.mpr ⟨?_, ?_⟩; k_ne))))
  intro d1 td so h' tk' hlod1 hhid1 hs F' N'
  (try k_sweep)
  (try dsimp only)
  (all_goals (repeat ((with_reducible refine OQ.use (by assumption) ?_); (try dsimp only))))
  w_strict (k_steps)
  (all_goals (repeat ((with_reducible refine OQ.use (by assumption) ?_); (try dsimp only))))
  refine Stop.mk ?_
  refine opk (fun K9 hK9 => ?_)
  k_dflt (refine' take_k XB TB (by assumption) (by k_asm) (by k_asm) (by repeat (first | exact Pull.head _ | apply Pull.tail)) (by assumption) rfl rfl rfl ?hd174 ?hu174 ?hs ?h0174 ?h1174 ?off174 ?hret174)
  case hs => assumption
  case h0174 => first | decide | omega
  case h1174 => first | decide | omega
  case hd174 => (dsimp only; first | exact dstep1 hdp rfl | exact dstep hdp rfl | omega)
  case hu174 => (dsimp only; first | exact dstep hun rfl | exact dstep1 hun rfl | omega)
  case off174 => ((repeat (first | (with_reducible assumption) | (with_reducible refine offc ?_ ?_; k_ne) | (with_reducible refine List.forall_mem_cons.mpr ⟨?_, ?_⟩; k_ne))))
  intro d2 td so h' tk' hlod2 hhid2 hs F' N'
  (try k_sweep)
  (try dsimp only)
  (all_goals (repeat ((with_reducible refine OQ.use (by assumption) ?_); (try dsimp only))))
  w_strict (k_steps)
  (all_goals (repeat ((with_reducible refine OQ.use (by assumption) ?_); (try dsimp only))))
  refine Stop.mk ?_
  refine opk (fun K9 hK9 => ?_)
  k_dflt (refine' mk_rep (n := 40 + d2) ?kbaF175 ?kbaN175 ?kbah175 ?kbal175 ?kbai175 ?kbar175 ?kban175 ?hd175 ?_)
  case kbaF175 => k_asm
  case kbaN175 => k_asm
  case kbah175 => rfl
  case kbal175 => kba_isList
  case kbai175 => omega
  case kbar175 => omega
  case kban175 => omega
  case hd175 => omega
  intro h' t' k' bb ks F' N' hbb hks
  (try k_sweep)
  (try dsimp only)
  (all_goals (repeat ((with_reducible refine OQ.use (by assumption) ?_); (try dsimp only))))
  w_strict (k_steps)
  (all_goals (repeat ((with_reducible refine OQ.use (by assumption) ?_); (try dsimp only))))
  rename News _ _ _ _ => N9
  rcases news_thin N9 (by repeat (first | apply Thin.dropL | apply Thin.dropT | apply Thin.keep | exact Thin.nil _)) with N'
  clear N9
  refine Stop.mk ?_
  refine opk (fun K9 hK9 => ?_)
  k_dflt (refine' con_step (lawframe XB TB sa so _ _ ?hs ?off177) (by assumption) (by k_asm) (by k_asm) (by assumption) rfl rfl rfl ?hd177 ?hu177 ?hesc177 ?hret177)
  case hs => assumption
  case off177 => ((repeat (first | (with_reducible assumption) | (with_reducible refine offc ?_ ?_; k_ne) | (with_reducible refine List.forall_mem_cons.mpr ⟨?_, ?_⟩; k_ne))))
  case hd177 => (dsimp only; first | exact dstep1 hdp rfl | exact dstep hdp rfl | omega)
  case hu177 => (dsimp only; first | exact dstep hun rfl | exact dstep1 hun rfl | omega)
  case hesc177 => exact fun _ _ _ _ q _ => q.elim
  intro r9 h' tk' news' F' N' P9
  (try k_sweep)
  obtain ⟨z, so, ex0, x, tgs, kd, ln, rfl, hs, rfl, Fi, hkd, hT, hn2, hx0, hx1, hAF⟩ := P9
  (try dsimp only)
  rcases news_mid [_, _, _, _] N' with N2
  simp only [List.cons_append, List.nil_append] at N2
  clear N'
  have ho0 : ∀ p ∈ ex0 ++ news, p.1 ≠ sa := off_app (fun q hq => (hAF q hq).1) hoff
  have hp0 : ∀ p ∈ ex0 ++ news, p.1 ≠ 359 := off_app (fun q hq => (hAF q hq).2 (359, _) (by k_mem)) hofP
  have hc0 : ∀ p ∈ ex0 ++ news, p.1 ≠ L' + 1 := off_app (fun q hq => (hAF q hq).2 (L' + 1, _) (by k_mem)) (all_of_lt hnL (by first | exact Nat.le_add_right _ 1 | exact Nat.le_add_right _ 2 | exact Nat.le_add_right _ 3 | exact Nat.le_add_right _ 4 | exact Nat.le_add_right _ 5))
  have hc00 : ∀ p ∈ ex0 ++ news, p.1 ≠ L' + 1 + 1 := off_app (fun q hq => (hAF q hq).2 (L' + 1 + 1, _) (by k_mem)) (all_of_lt hnL (by first | exact Nat.le_add_right _ 1 | exact Nat.le_add_right _ 2 | exact Nat.le_add_right _ 3 | exact Nat.le_add_right _ 4 | exact Nat.le_add_right _ 5))
  have hc000 : ∀ p ∈ ex0 ++ news, p.1 ≠ L' + 1 + 1 + 1 := off_app (fun q hq => (hAF q hq).2 (L' + 1 + 1 + 1, _) (by k_mem)) (all_of_lt hnL (by first | exact Nat.le_add_right _ 1 | exact Nat.le_add_right _ 2 | exact Nat.le_add_right _ 3 | exact Nat.le_add_right _ 4 | exact Nat.le_add_right _ 5))
  have FM := Fi
  obtain ⟨dx, ta, vs, tn, tx, ty, tb, t1, t2, t3, t4, t5, m1, m2, m3, hTI⟩ := FM
  have lz := (hAF _ m1).2
  have lz0 : @LT.lt Nat _ sa z := (hAF _ m1).1
  have ldx := (hAF _ m2).2
  have ldx0 : @LT.lt Nat _ sa dx := (hAF _ m2).1
  have lta := (hAF _ m3).2
  have lta0 : @LT.lt Nat _ sa ta := (hAF _ m3).1
  k_lt lz
  k_lt ldx
  k_lt lta
  rcases news_dup3 N2 (fun p9 hp9 => by repeat (first | exact List.mem_append_left _ hp9 | refine List.mem_cons_of_mem _ ?_)) m1 m2 m3 with N'
  clear N2
  (all_goals (repeat ((with_reducible refine OQ.use (by assumption) ?_); (try dsimp only))))
  w_strict (k_steps)
  (all_goals (repeat ((with_reducible refine OQ.use (by assumption) ?_); (try dsimp only))))
  refine Stop.mk ?_
  refine opk (fun K9 hK9 => ?_)
  k_dflt (refine' con_step (pack_ok (Fi := ?Fi9178) (y := 9) XB TB ln ks hkd hbb hT hx0 hx1 (by decide) (by decide) (by first | decide | omega) hn2) (by assumption) (by k_asm) (by k_asm) (by assumption) rfl rfl rfl ?hd178 ?hu178 ?hesc178 ?hret178)
  case Fi9178 => exact Fi.mono (fun p9 hp9 => by repeat (first | exact List.mem_append_left _ hp9 | refine List.mem_cons_of_mem _ ?_))
  case hd178 => (dsimp only; first | exact dstep1 hdp rfl | exact dstep hdp rfl | omega)
  case hu178 => (dsimp only; first | exact dstep hun rfl | exact dstep1 hun rfl | omega)
  case hesc178 => exact fun _ _ _ _ q _ => q.elim
  intro r9 h' tk' news' F' N' P9
  (try k_sweep)
  (try dsimp only)
  obtain ⟨rfl, wb, wt, rfl, hwb⟩ := P9
  have hwl : ((packB x 9 (tagsB tgs) (kindB ln ks.length) ks).length : Int) = max 60 (14 + 4 * (tgs.length : Int) + (ks.length : Int)) + 4 := by
    rw [packB_len]; exact mx_cast _ _
  obtain ⟨ws, hws⟩ : ∃ ws, ws = packB x 9 (tagsB tgs) (kindB ln ks.length) ks := ⟨_, rfl⟩
  rw [← hws] at hwb hwl
  (all_goals (repeat ((with_reducible refine OQ.use (by assumption) ?_); (try dsimp only))))
  w_strict (k_steps)
  (all_goals (repeat ((with_reducible refine OQ.use (by assumption) ?_); (try dsimp only))))
  refine Stop.mk ?_
  refine opk (fun K9 hK9 => ?_)
  k_dflt (refine' con_step (size_in (Fi := ?Fi9179) XB TB ln ks hkd hbb (by first | decide | omega) hn2 60 993 [.ref z] (sbinds1 _)) (by assumption) (by k_asm) (by k_asm) (by assumption) rfl rfl rfl ?hd179 ?hu179 ?hesc179 ?hret179)
  case Fi9179 => exact Fi.mono (fun p9 hp9 => by repeat (first | exact List.mem_append_left _ hp9 | refine List.mem_cons_of_mem _ ?_))
  case hd179 => (dsimp only; first | exact dstep1 hdp rfl | exact dstep hdp rfl | omega)
  case hu179 => (dsimp only; first | exact dstep hun rfl | exact dstep1 hun rfl | omega)
  case hesc179 => exact fun _ _ _ _ q _ => q.elim
  intro r9 h' tk' news' F' N' P9
  (try k_sweep)
  (try dsimp only)
  obtain ⟨rfl, tr1, rfl⟩ := P9
  rw [← hwl]
  (all_goals (repeat ((with_reducible refine OQ.use (by assumption) ?_); (try dsimp only))))
  w_strict (k_steps)
  (all_goals (repeat ((with_reducible refine OQ.use (by assumption) ?_); (try dsimp only))))
  refine Stop.mk ?_
  refine opk (fun K9 hK9 => ?_)
  k_dflt (refine' one_r 0 100 XB TB ?hv (by assumption) (by k_asm) (by k_asm) (by repeat (first | exact Pull.head _ | apply Pull.tail)) (by repeat (first | exact Pull.head _ | apply Pull.tail)) (by assumption) rfl rfl rfl ?hd180 ?hu180 ?hs rfl rfl ?off180 ?ol180 ?hret180)
  case hv => rfl
  case hs => assumption
  case ol180 => first | k_ne
  case hd180 => (dsimp only; first | exact dstep1 hdp rfl | exact dstep hdp rfl | omega)
  case hu180 => (dsimp only; first | exact dstep hun rfl | exact dstep1 hun rfl | omega)
  case off180 => ((repeat (first | (with_reducible assumption) | (with_reducible refine offc ?_ ?_; k_ne) | (with_reducible refine List.forall_mem_cons.mpr ⟨?_, ?_⟩; k_ne))))
  intro lst tk2 so h' tk' hl0 hl1 hs F' N'
  (try k_sweep)
  (try dsimp only)
  rcases news_thin N' (by repeat (first | apply Thin.dropL | apply Thin.keep | exact Thin.nil _)) with N2
  clear N'
  (all_goals (repeat ((with_reducible refine OQ.use (by assumption) ?_); (try dsimp only))))
  w_strict (k_steps)
  (all_goals (repeat ((with_reducible refine OQ.use (by assumption) ?_); (try dsimp only))))
  refine Stop.mk ?_
  refine opk (fun K9 hK9 => ?_)
  k_dflt (refine' con_step (size_in (Fi := ?Fi9181) XB TB ln ks hkd hbb (by first | decide | omega) hn2 lst tk2 [.ref z, .int lst tk2] (sbinds2 _ _ _)) (by assumption) (by k_asm) (by k_asm) (by assumption) rfl rfl rfl ?hd181 ?hu181 ?hesc181 ?hret181)
  case Fi9181 => exact Fi.mono (fun p9 hp9 => by repeat (first | exact List.mem_append_left _ hp9 | refine List.mem_cons_of_mem _ ?_))
  case hd181 => (dsimp only; first | exact dstep1 hdp rfl | exact dstep hdp rfl | omega)
  case hu181 => (dsimp only; first | exact dstep hun rfl | exact dstep1 hun rfl | omega)
  case hesc181 => exact fun _ _ _ _ q _ => q.elim
  intro r9 h' tk' news' F' N' P9
  (try k_sweep)
  (try dsimp only)
  obtain ⟨rfl, tr2, rfl⟩ := P9
  (all_goals (repeat ((with_reducible refine OQ.use (by assumption) ?_); (try dsimp only))))
  w_strict (k_steps)
  (all_goals (repeat ((with_reducible refine OQ.use (by assumption) ?_); (try dsimp only))))
  refine Stop.mk ?_
  (all_goals (repeat ((with_reducible refine OQ.use (by assumption) ?_); (try dsimp only))))
  k_dflt (refine cut_at (fun v => IsB v (filB ln tgs.length ks.length)) (by k_asm) (by k_asm) ?cutF ?cutG)
  case cutF =>
    intro go
    cases ln with
    | true =>
      obtain rfl : kd = .none := hkd
      (all_goals (repeat ((with_reducible refine OQ.use (by assumption) ?_); (try dsimp only))))
      w_strict (k_steps)
      (all_goals (repeat ((with_reducible refine OQ.use (by assumption) ?_); (try dsimp only))))
      (all_goals (repeat ((with_reducible refine OQ.use (by assumption) ?_); (try dsimp only))))
      refine cut_end (by k_asm) (by k_asm) ⟨_, _, rfl, rfl⟩
    | false =>
      obtain ⟨tkk, rfl⟩ : ∃ t, kd = .int 2048 t := hkd
      (all_goals (repeat ((with_reducible refine OQ.use (by assumption) ?_); (try dsimp only))))
      w_strict (k_steps)
      (all_goals (repeat ((with_reducible refine OQ.use (by assumption) ?_); (try dsimp only))))
      (all_goals (repeat ((with_reducible refine OQ.use (by assumption) ?_); (try dsimp only))))
      refine cut_end (by k_asm) (by k_asm) ⟨_, _, rfl, Eq.trans (by assumption) (congrArg (List.replicate · (0 : Int)) ?_)⟩
      exact mx_fill _ _ _ (by assumption)
  case cutG =>
  intro v h' tk' F' N' hv
  obtain ⟨fb, ft, rfl, hfb⟩ := hv
  obtain ⟨fs, hfs⟩ : ∃ fs, fs = filB ln tgs.length ks.length := ⟨_, rfl⟩
  have hfl : fs.length ≤ 60 := by rw [hfs]; exact filB_len _ _ _
  rw [← hfs] at hfb
  (all_goals (repeat ((with_reducible refine OQ.use (by assumption) ?_); (try dsimp only))))
  w_strict (k_steps)
  (all_goals (repeat ((with_reducible refine OQ.use (by assumption) ?_); (try dsimp only))))
  refine Stop.mk ?_
  refine opk (fun K9 hK9 => ?_)
  k_dflt (refine' con_step (told_in (Fi := ?Fi9182) XB TB ln hkd hn2) (by assumption) (by k_asm) (by k_asm) (by assumption) rfl rfl rfl ?hd182 ?hu182 ?hesc182 ?hret182)
  case Fi9182 => exact Fi.mono (fun p9 hp9 => by repeat (first | exact List.mem_append_left _ hp9 | refine List.mem_cons_of_mem _ ?_))
  case hd182 => (dsimp only; first | exact dstep1 hdp rfl | exact dstep hdp rfl | omega)
  case hu182 => (dsimp only; first | exact dstep hun rfl | exact dstep1 hun rfl | omega)
  case hesc182 => exact fun _ _ _ _ q _ => q.elim
  intro r9 h' tk' news' F' N' P9
  (try k_sweep)
  (try dsimp only)
  obtain ⟨_, rfl, q, tt, tx2, ty2, tb2, nt, rfl, rfl, hTT, hnt⟩ := P9
  rcases news_mid [_, _, _, _, _, _, _, _] N' with N2
  simp only [List.cons_append, List.nil_append] at N2
  clear N'
  (all_goals (repeat ((with_reducible refine OQ.use (by assumption) ?_); (try dsimp only))))
  w_strict (k_steps)
  (all_goals (repeat ((with_reducible refine OQ.use (by assumption) ?_); (try dsimp only))))
  rename News _ _ _ _ => N8
  rcases thin_due N8 with N2
  clear N8
  have hnP : ∀ p ∈ nt, p.1 ≠ 359 := off_tup (o := tabObj ps) N2 (fun p9 hp9 => by repeat (first | exact List.mem_append_left _ hp9 | refine List.mem_cons_of_mem _ ?_)) hnt (by k_mem) (fun _ _ e => nomatch e)
  have hna : ∀ p ∈ nt, p.1 ≠ L' + 1 := off_cell N2 (fun p9 hp9 => by repeat (first | exact List.mem_append_left _ hp9 | refine List.mem_cons_of_mem _ ?_)) hnt (by k_mem) (by assumption)
  have hnb : ∀ p ∈ nt, p.1 ≠ L' + 1 + 1 := off_cell N2 (fun p9 hp9 => by repeat (first | exact List.mem_append_left _ hp9 | refine List.mem_cons_of_mem _ ?_)) hnt (by k_mem) (by assumption)
  have hnc : ∀ p ∈ nt, p.1 ≠ L' + 1 + 1 + 1 := off_cell N2 (fun p9 hp9 => by repeat (first | exact List.mem_append_left _ hp9 | refine List.mem_cons_of_mem _ ?_)) hnt (by k_mem) (by assumption)
  have h0P : ∀ p ∈ news, p.1 ≠ 359 := hofP
  have h0a : ∀ p ∈ news, p.1 ≠ L' + 1 := all_of_lt hnL (by first | exact Nat.le_add_right _ 1 | exact Nat.le_add_right _ 2 | exact Nat.le_add_right _ 3 | exact Nat.le_add_right _ 4 | exact Nat.le_add_right _ 5)
  have h0b : ∀ p ∈ news, p.1 ≠ L' + 1 + 1 := all_of_lt hnL (by first | exact Nat.le_add_right _ 1 | exact Nat.le_add_right _ 2 | exact Nat.le_add_right _ 3 | exact Nat.le_add_right _ 4 | exact Nat.le_add_right _ 5)
  have h0c : ∀ p ∈ news, p.1 ≠ L' + 1 + 1 + 1 := all_of_lt hnL (by first | exact Nat.le_add_right _ 1 | exact Nat.le_add_right _ 2 | exact Nat.le_add_right _ 3 | exact Nat.le_add_right _ 4 | exact Nat.le_add_right _ 5)
  (all_goals (repeat ((with_reducible refine OQ.use (by assumption) ?_); (try dsimp only))))
  refine iter_listTurns (vs := [_, _]) rfl (by k_asm) N2 (.tail _ (.head _)) rfl rfl ?_
  intro I lI
  have lI0 := lI
  have h0I : ∀ p ∈ news, p.1 ≠ I := fun p hp => Nat.ne_of_lt (lI0 p (by repeat (first | exact List.mem_append_right _ hp | refine List.mem_cons_of_mem _ ?_)))
  have hnI : ∀ p ∈ nt, p.1 ≠ I := fun p hp => Nat.ne_of_lt (lI0 p (by repeat (first | exact List.mem_append_left _ hp | refine List.mem_cons_of_mem _ ?_)))
  k_lt lI
  with_unfolding_all refine most_ind (Str.ofString "told") (Str.ofString "most") (fun v => ∃ mv tm, v = .int mv tm ∧ (ws.length : Int) ≤ mv) (fun ex => ∀ q ∈ ex, 359 < q.1 ∧ sa < q.1 ∧ L' + 1 < q.1 ∧ L' + 1 + 1 < q.1 ∧ L' + 1 + 1 + 1 < q.1 ∧ I < q.1 ∧ ∀ z ∈ news, z.1 < q.1) ?hV TG (List.forall_mem_nil _) (by assumption) (fun v oa ob oe ce ps ex hv hoe TG EXx h' tk' F' => ?_) (fun oa ob oe ce ps ex hoe TG EXx h' tk' F' N' => ?_)
  case hV =>
    intro a ha
    simp only [List.map_cons, List.map_nil, List.mem_cons, List.not_mem_nil, or_false] at ha
    rcases ha with rfl | rfl <;> exact ⟨_, rfl, _, _, rfl, by omega⟩
  rotate_left
  · have hxI := off_app (a := I) (fun q hq => (EXx q hq).2.2.2.2.2.1) h0I
    have hxP := off_app (a := 359) (fun q hq => (EXx q hq).1) h0P
    have hxa := off_app (a := L' + 1) (fun q hq => (EXx q hq).2.2.1) h0a
    have hxb := off_app (a := L' + 1 + 1) (fun q hq => (EXx q hq).2.2.2.1) h0b
    have hxc := off_app (a := L' + 1 + 1 + 1) (fun q hq => (EXx q hq).2.2.2.2.1) h0c
    have htI := off_both hnI hxI
    have htP := off_both hnP hxP
    have hta := off_both hna hxa
    have htb := off_both hnb hxb
    have htc := off_both hnc hxc
    (all_goals (repeat ((with_reducible refine OQ.use (by assumption) ?_); (try dsimp only))))
    w_strict (k_steps)
    (all_goals (repeat ((with_reducible refine OQ.use (by assumption) ?_); (try dsimp only))))
    refine Stop.mk ?_
    refine opk (fun K9 hK9 => ?_)
    k_dflt (refine' lam_any2 (P := 359) (by k_asm) (news_pull (by k_asm) (by repeat (first | exact Pull.head _ | apply Pull.tail))) (by assumption) (CodeHd.keeps CH (Below.stays (by assumption))) rfl ?off183 (SplitA.toS (by repeat (first | exact SplitA.nil | apply SplitA.cons | apply SplitA.app))) TG rfl rfl ?hret183)
    case off183 => ((repeat (first | (with_reducible assumption) | exact List.forall_mem_nil _ | (with_reducible refine offc ?_ ?_; k_ne) | (with_reducible refine List.forall_mem_cons.mpr ⟨?_, ?_⟩; k_ne))))
    intro f3 c3 pm ctv h' tk' ps ex3 F' N' TG3 R3 E3 G3
    (try k_sweep)
    dsimp only [AllLt] at G3
    simp only [List.cons_append, List.nil_append, List.append_nil, List.append_assoc] at N' R3
    (try dsimp only)
    (all_goals (repeat ((with_reducible refine OQ.use (by assumption) ?_); (try dsimp only))))
    w_strict (k_steps)
    (all_goals (repeat ((with_reducible refine OQ.use (by assumption) ?_); (try dsimp only))))
    refine Stop.mk ?_
    refine opk (fun K9 hK9 => ?_)
    k_dflt (refine' conT_step (heardK_form True (fun _ => False) (dn := 140) (un' := 2000) XB TB ?pull184 ?CL3) (by assumption) XB TB (by k_asm) (by k_asm) (by assumption) (by assumption) rfl rfl rfl ?hd184 ?hu184 ?hesc184 ?CR3)
    case pull184 => k_mem
    case hd184 => (dsimp only; first | exact dstep1 hdp rfl | exact dstep hdp rfl | omega)
    case hu184 => (dsimp only; first | exact dstep hun rfl | exact dstep1 hun rfl | omega)
    case hesc184 => exact fun _ _ _ _ q _ => q.elim
    case CL3 =>
      refine' con_lamQ XB TB (by k_mem) (R3.mono (fun q hq => .tail _ (.tail _ hq))) rfl (locs rfl) (by decide) ?_ (by decide) rfl rfl rfl
      intro dp un gd l sh9 sg9 sd9 sk9 so9 g L' h' Q1 E1 hdp hun AN F' N' l1 B' D' X' T' TT hQ1 hE1
      (try dsimp only)
      (try k_fold)
      (all_goals (repeat ((with_reducible refine OQ.use (by assumption) ?_); (try dsimp only))))
      w_strict (k_steps)
      (all_goals (repeat ((with_reducible refine OQ.use (by assumption) ?_); (try dsimp only))))
      refine Stop.mk ?_
      refine opk (fun K9 hK9 => ?_)
      k_dflt (refine' con_step (unpack_inL XB TB x 9 tgs ln ks wb _ _ _ _ (ubinds2 _ _ _ _) (hwb.trans hws) (by first | decide | omega) hn2 (by first | decide | omega)) (by assumption) (by k_asm) (by k_asm) (by assumption) rfl rfl rfl ?hd186 ?hu186 ?hesc186 ?hret186)
      case hd186 => (dsimp only; first | exact dstep1 hdp rfl | exact dstep hdp rfl | omega)
      case hu186 => (dsimp only; first | exact dstep hun rfl | exact dstep1 hun rfl | omega)
      case hesc186 =>
        refine con_pass2 (by first | exact fun _ _ x => x | (rename EQ9 _ _ => hE9; exact EQ9.pass hE9)) (by assumption) (by k_asm) (by k_asm) (by assumption) rfl ?sub186 rfl rfl ?pe186
        case sub186 => intro _ hq; repeat (first | exact hq | refine List.mem_cons_of_mem _ ?_)
        case pe186 => first | exact fun _ x => x | exact fun _ x => ⟨trivial, x⟩
      intro r9 h' tk' news' F' N' P9
      (try k_sweep)
      (try dsimp only)
      exact P9.elim
    case CR3 =>
      clear B' D' X' T' TT F' N'
      intro r gk' h' tk' news' F' N' B' D' TT X' T' P9
      obtain ⟨rfl, P9⟩ := P9
      (try dsimp only)
      obtain ⟨_, tk5, rfl⟩ : True ∧ ∃ tk, r = .str "form" tk := P9.resolve_left (fun q => q)
      (all_goals (repeat ((with_reducible refine OQ.use (by assumption) ?_); (try dsimp only))))
      w_strict (k_steps)
      (all_goals (repeat ((with_reducible refine OQ.use (by assumption) ?_); (try dsimp only))))
      (try dsimp only)
      (all_goals (repeat ((with_reducible refine OQ.use (by assumption) ?_); (try dsimp only))))
      refine endT_c (by k_asm) ?endN TT ⟨so, ps, ex3 ++ ex, rfl, hs, by rw [List.append_assoc]; exact TG3, rfl, ?endL⟩
      case endN =>
        rw [List.append_assoc]
        exact news_sub (by k_asm) (List.forall_mem_cons.mpr ⟨by k_mem, List.forall_mem_cons.mpr ⟨by k_mem, fun q hq => by repeat (first | exact hq | refine List.mem_cons_of_mem _ ?_ | refine List.mem_append_right _ ?_)⟩⟩)
      case endL =>
        intro q hq
        rcases List.mem_append.mp hq with h | h
        · exact ⟨(E3 q h).1.2 (sa, _) (by k_mem), fun z hz => (E3 q h).1.2 z (by repeat (first | exact hz | refine List.mem_cons_of_mem _ ?_ | refine List.mem_append_right _ ?_))⟩
        · exact ⟨(EXx q h).2.1, (EXx q h).2.2.2.2.2.2⟩
  · obtain ⟨mv, tm, rfl, hmv⟩ := hv
    refine AllObj.cons (fun oI hcI => ?_)
    refine AllObj.nil (fun N' => ?_)
    simp only [List.cons_append, List.nil_append] at N'
    clear N2
    have hxI := off_app (a := I) (fun q hq => (EXx q hq).2.2.2.2.2.1) h0I
    have hxP := off_app (a := 359) (fun q hq => (EXx q hq).1) h0P
    have hxa := off_app (a := L' + 1) (fun q hq => (EXx q hq).2.2.1) h0a
    have hxb := off_app (a := L' + 1 + 1) (fun q hq => (EXx q hq).2.2.2.1) h0b
    have hxc := off_app (a := L' + 1 + 1 + 1) (fun q hq => (EXx q hq).2.2.2.2.1) h0c
    have htI := off_both hnI hxI
    have htP := off_both hnP hxP
    have hta := off_both hna hxa
    have htb := off_both hnb hxb
    have htc := off_both hnc hxc
    (all_goals (repeat ((with_reducible refine OQ.use (by assumption) ?_); (try dsimp only))))
    w_strict (k_steps)
    (all_goals (repeat ((with_reducible refine OQ.use (by assumption) ?_); (try dsimp only))))
    refine Stop.mk ?_
    refine opk (fun K9 hK9 => ?_)
    k_dflt (refine' lam_any2 (P := 359) (by k_asm) (news_pull (by k_asm) (by repeat (first | exact Pull.head _ | apply Pull.tail))) (by assumption) (CodeHd.keeps CH (Below.stays (by assumption))) rfl ?off188 (SplitA.toS (by repeat (first | exact SplitA.nil | apply SplitA.cons | apply SplitA.app))) TG rfl rfl ?hret188)
    case off188 => ((repeat (first | (with_reducible assumption) | exact List.forall_mem_nil _ | (with_reducible refine offc ?_ ?_; k_ne) | (with_reducible refine List.forall_mem_cons.mpr ⟨?_, ?_⟩; k_ne))))
    intro f1 c1 pm ctv h' tk' ps ex1 F' N' TG1 R1 E1 G1
    (try k_sweep)
    dsimp only [AllLt] at G1
    simp only [List.cons_append, List.nil_append, List.append_nil, List.append_assoc] at N' R1
    (try dsimp only)
    (all_goals (repeat ((with_reducible refine OQ.use (by assumption) ?_); (try dsimp only))))
    w_strict (k_steps)
    (all_goals (repeat ((with_reducible refine OQ.use (by assumption) ?_); (try dsimp only))))
    refine Stop.mk ?_
    refine opk (fun K9 hK9 => ?_)
    k_dflt (refine' con_step (heard_okU (dn := 140) (un' := 2000) XB TB ?pull189 ?CL1) (by assumption) (by k_asm) (by k_asm) (by assumption) rfl rfl rfl ?hd189 ?hu189 ?hesc189 ?CR1)
    case pull189 => k_mem
    case hd189 => (dsimp only; first | exact dstep1 hdp rfl | exact dstep hdp rfl | omega)
    case hu189 => (dsimp only; first | exact dstep hun rfl | exact dstep1 hun rfl | omega)
    case hesc189 => exact fun _ _ _ _ q _ => q.elim
    case CL1 =>
      refine' con_lamQ XB TB (by k_mem) (R1.mono (fun q hq => .tail _ (.tail _ hq))) rfl (locs rfl) (by decide) ?_ (by decide) rfl rfl rfl
      intro dp un gd l sh9 sg9 sd9 sk9 so9 g L' h' Q1 E1 hdp hun AN F' N' l1 B' D' X' T' TT hQ1 hE1
      (try dsimp only)
      (try k_fold)
      (all_goals (repeat ((with_reducible refine OQ.use (by assumption) ?_); (try dsimp only))))
      w_strict (k_steps)
      (all_goals (repeat ((with_reducible refine OQ.use (by assumption) ?_); (try dsimp only))))
      refine Stop.mk ?_
      refine opk (fun K9 hK9 => ?_)
      k_dflt (refine' con_step (unpack_in XB TB x 9 tgs ln ks wb _ _ _ _ (ubinds2 _ _ _ _) (hwb.trans hws) hT hx0 hx1 (by decide) (by decide) (by first | decide | omega) (fun _ => by omega) hn2 (by first | decide | omega)) (by assumption) (by k_asm) (by k_asm) (by assumption) rfl rfl rfl ?hd191 ?hu191 ?hesc191 ?hret191)
      case hd191 => (dsimp only; first | exact dstep1 hdp rfl | exact dstep hdp rfl | omega)
      case hu191 => (dsimp only; first | exact dstep hun rfl | exact dstep1 hun rfl | omega)
      case hesc191 => exact fun _ _ _ _ q _ => q.elim
      intro r9 h' tk' news' F' N' P9
      (try k_sweep)
      (try dsimp only)
      obtain ⟨new, rfl, z2, kd2, pb2, rfl, Fu, hk2, hp2⟩ := P9
      (all_goals (repeat ((with_reducible refine OQ.use (by assumption) ?_); (try dsimp only))))
      exact end_c (by k_asm) (by k_asm) TT ⟨new, rfl, z2, kd2, pb2, rfl, Fu, hk2, hp2⟩
    case CR1 =>
    intro r9 h' tk' news' F' N' P9
    (try k_sweep)
    obtain ⟨nw, rfl, z2, kd2, pb2, rfl, Fu, hk2, hp2⟩ := P9
    have FM := Fu
    obtain ⟨dx2, ta2, vs2, tn2, tx3, ty3, tb3, s1, s2, s3, s4, s5, m1, m2, m3, hTI2⟩ := FM
    rcases news_dup3 N' (fun p hp => List.mem_append_left _ hp) m1 m2 m3 with N2
    clear N'
    (all_goals (repeat ((with_reducible refine OQ.use (by assumption) ?_); (try dsimp only))))
    w_strict (k_steps)
    (all_goals (repeat ((with_reducible refine OQ.use (by assumption) ?_); (try dsimp only))))
    have Fi := Fu
    refine Stop.mk ?_
    refine opk (fun K9 hK9 => ?_)
    k_dflt (refine' con_step (told_in (Fi := ?Fi9192) XB TB ln hk2 hn2) (by assumption) (by k_asm) (by k_asm) (by assumption) rfl rfl rfl ?hd192 ?hu192 ?hesc192 ?hret192)
    case Fi9192 => exact Fi.mono (fun p9 hp9 => by repeat (first | exact List.mem_append_left _ hp9 | refine List.mem_cons_of_mem _ ?_))
    case hd192 => (dsimp only; first | exact dstep1 hdp rfl | exact dstep hdp rfl | omega)
    case hu192 => (dsimp only; first | exact dstep hun rfl | exact dstep1 hun rfl | omega)
    case hesc192 => exact fun _ _ _ _ q _ => q.elim
    intro r9 h' tk' news' F' N' P9
    (try k_sweep)
    (try dsimp only)
    obtain ⟨_, rfl, q2, tt3, tx4, ty4, tb4, nt2, rfl, rfl, hTT2, hnt2⟩ := P9
    simp only [List.cons_append] at N'
    (all_goals (repeat ((with_reducible refine OQ.use (by assumption) ?_); (try dsimp only))))
    w_strict (k_steps)
    (all_goals (repeat ((with_reducible refine OQ.use (by assumption) ?_); (try dsimp only))))
    refine Stop.mk ?_
    (all_goals (repeat ((with_reducible refine OQ.use (by assumption) ?_); (try dsimp only))))
    k_dflt (refine told_ne (by k_asm) (List.Mem.head _) (by repeat (first | exact List.Mem.head _ | refine List.mem_cons_of_mem _ ?_ | refine List.mem_append_right _ ?_)) (hTT2.mono (fun p9 hp9 => by repeat (first | exact List.mem_append_left _ hp9 | refine List.mem_cons_of_mem _ ?_ | refine List.mem_append_right _ ?_))) (hTT.mono (fun p9 hp9 => by repeat (first | exact List.mem_append_left _ hp9 | refine List.mem_cons_of_mem _ ?_ | refine List.mem_append_right _ ?_))) hk2 hkd hp2 (Eq.trans (by assumption) (by rw [payB_eq, ← hfs])) (by (dsimp only [Around.deeper, At]; omega)) ?_)
    (all_goals (repeat ((with_reducible refine OQ.use (by assumption) ?_); (try dsimp only))))
    w_strict (k_steps)
    (all_goals (repeat ((with_reducible refine OQ.use (by assumption) ?_); (try dsimp only))))
    have e1I := off_app (a := I) (fun q hq => (E1 q hq).1.2 (I, _) (by k_mem)) hxI
    have e1P := off_app (a := 359) (fun q hq => (E1 q hq).1.1) hxP
    have e1a := off_app (a := L' + 1) (fun q hq => (E1 q hq).1.2 (L' + 1, _) (by k_mem)) hxa
    have e1b := off_app (a := L' + 1 + 1) (fun q hq => (E1 q hq).1.2 (L' + 1 + 1, _) (by k_mem)) hxb
    have e1c := off_app (a := L' + 1 + 1 + 1) (fun q hq => (E1 q hq).1.2 (L' + 1 + 1 + 1, _) (by k_mem)) hxc
    have et1I := off_both hnI e1I
    (all_goals (repeat ((with_reducible refine OQ.use (by assumption) ?_); (try dsimp only))))
    refine unr_end (by k_asm) N' ?offI1 ⟨⟨.tail _ (.head _), trivial⟩, ⟨_, _, _, _, _, ex1 ++ ex, by assumption, up2_next1, by rw [List.append_assoc], by rw [List.append_assoc]; exact TG1, ?exx⟩⟩
    case offI1 => ((repeat (first | (with_reducible assumption) | (with_reducible refine List.forall_mem_cons.mpr ⟨?_, ?_⟩; k_ne))))
    case exx =>
      intro q hq
      rcases List.mem_append.mp hq with h | h
      · exact ⟨(E1 q h).1.1, (E1 q h).1.2 (sa, _) (by k_mem), (E1 q h).1.2 (L' + 1, _) (by k_mem), (E1 q h).1.2 (L' + 1 + 1, _) (by k_mem), (E1 q h).1.2 (L' + 1 + 1 + 1, _) (by k_mem), (E1 q h).1.2 (I, _) (by k_mem), fun z hz => (E1 q h).1.2 z (by repeat (first | exact hz | refine List.mem_cons_of_mem _ ?_ | refine List.mem_append_right _ ?_))⟩
      · exact EXx q h
end
section
variable {w : World} {p : Program} {loose : List Str} {mean : ExcName → Option Value} {mg mb : Str → Option Value} {base : Heap} {news : List (Addr × Obj)}
theorem off_src {g h : Heap} {L : Addr} {l ex : List (Addr × Obj)} {a : Addr} {so : Obj} (N : News g L h l) (s : ∀ p ∈ ex, p ∈ l) (c : ∀ p ∈ ex, ∃ its n, p.2 = (⟨Value.type "tuple", none, Data.seq its n, #[]⟩ : Obj)) (hm : (a, so) ∈ l) (hs : Src so) : ∀ p ∈ ex, p.1 ≠ a := fun p hp e => by
  obtain ⟨its, n, q⟩ := c p hp
  obtain ⟨X, Y, tX, tY, m, rfl, _, _⟩ := hs
  have h1 := (N p (s p hp)).1
  rw [e, (N _ hm).1, q] at h1
  have h2 : Value.type "list" = Value.type "tuple" := congrArg Obj.cls (Option.some.inj h1)
  exact absurd h2 (by decide)
theorem unpack_any (XB : (Lw.head.heap_1 w.params).In base) (TB : Top p loose mean mg mb base) {l : List (Addr × Obj)} (x y : Int) (ps : List (Int × Int)) (ln : Bool) (ks : List Int) (b : Array UInt8) (m : Int) (tb tm : Tok) (vs : List Value) (HB : UBinds w vs b tb m tm) (hb : KBw.bInts b = packB x y (tagsB ps) (kindB ln ks.length) ks) (hT : TagsOk ps)
    (hx0 : 0 ≤ x) (hx1 : x < 281474976710656) (hy0 : 0 ≤ y) (hy1 : y < 281474976710656) (hl : ks.length ≤ 2000) (hln : ln = true → ks.length ≤ 1500) (hn : ps.length ≤ 2) (W : Int) (hW : W = max 60 (14 + 4 * (ps.length : Int) + (ks.length : Int)) + 4) :
    Con w base 100 1500 310 vs l (fun r news' => ¬ m < W ∧ UnpP w x y ps ln ks l r news') (fun c => m < W ∧ c = .ref 151) := by
  subst hW
  by_cases c : m < max 60 (14 + 4 * (ps.length : Int) + (ks.length : Int)) + 4
  · exact con_mono (unpack_inL XB TB x y ps ln ks b m tb tm vs HB hb hl hn c) (fun _ _ q => q.elim) fun _ q => ⟨c, q⟩
  · exact con_mono (unpack_in XB TB x y ps ln ks b m tb tm vs HB hb hT hx0 hx1 hy0 hy1 hl hln hn (by first | decide | omega)) (fun _ _ q => ⟨c, by obtain ⟨n1, n2, n3, n4, n5, n6, n7, n8, n9⟩ := q; exact ⟨n1, n2, n3, n4, n5, n6, n7, n8, n9⟩⟩) fun _ q => q.elim
theorem heardK_unp {dn un' : Nat} {f c' : Addr} (B : Prop) (x y : Int) (tgs : List (Int × Int)) (ln : Bool) (ks : List Int) {qual : Str} {prm : Arguments} {lb : PySem.Expr} {sc : Scope} {cl : List (Str × Addr)} {pm ctv : Value} (XB : (Lw.head.heap_1 w.params).In base) (TB : Top p loose mean mg mb base) (hf : (f, kla_obj "<lambda>" qual prm lb sc cl pm c' ctv) ∈ news)
    (C : Con w base dn un' f [] news (fun r news' => ¬ B ∧ UnpP w x y tgs ln ks news r news') (fun c => B ∧ c = .ref 151)) : ConT w base (dn + 20) (un' + 200) 338 [.ref f] news (fun r news' => (¬ B ∧ UnpP w x y tgs ln ks news r news') ∨ (B ∧ news' = news ∧ ∃ tk, r = .str "form" tk)) (fun _ => False) :=
  heard_form XB TB hf C
theorem ne_int_diff {prog : Program} {A : Around} {E : Value → Shared → Prop} {s : Shared} {a b : Int} {t u : Tok} {Q : Value → Shared → Prop} (h : a ≠ b) (hq : Q (.bool true) s) : wpAny (model prog w) A (compareOp .NotEq (.int a t) (.int b u)) Q E s := by
  refine ne_int ?_
  rw [bne_iff_ne.mpr h]
  exact hq
theorem thin_told {g h : Heap} {L : Addr} {nw ex T : List (Addr × Obj)} {f p z dx ta s c3 c2 c1 : Addr × Obj} (N : News g L h (nw ++ (f :: p :: z :: dx :: ta :: s :: c3 :: c2 :: c1 :: (ex ++ T)))) : News g L h (p :: s :: c3 :: c2 :: c1 :: (nw ++ T)) := news_sub N (by
  intro q hq
  simp only [List.mem_cons, List.mem_append] at hq ⊢
  rcases hq with h | h | h | h | h | h | h <;> simp [h])
theorem payB_big {ln : Bool} {n : Nat} {ks : List Int} (h : 46 ≤ ks.length) : payB ln n ks = ks := by
  cases ln
  · show ks ++ List.replicate (60 - (14 + 4 * n + ks.length)) 0 = ks
    rw [show 60 - (14 + 4 * n + ks.length) = 0 from by omega]
    exact List.append_nil ks
  · rfl
theorem thin_unp {g h : Heap} {L : Addr} {nw T : List (Addr × Obj)} {f p s c3 c2 c1 : Addr × Obj} (N : News g L h (nw ++ (f :: p :: s :: c3 :: c2 :: c1 :: T))) : News g L h (p :: s :: c3 :: c2 :: c1 :: (nw ++ T)) := news_sub N (by
  intro q hq
  simp only [List.mem_cons, List.mem_append] at hq ⊢
  rcases hq with h | h | h | h | h | h | h <;> simp [h])
end
local macro_rules | `(tactic| walk_at "compareOp NotEq int int") => `(tactic| (k_here; k_dflt (first | refine ne_int_same (by first | rfl | exact Eq.trans (by assumption) (mx_ite _ _) | exact mx_ite _ _ | omega | (split <;> omega)) ?_ | refine ne_int_diff (by omega) ?_)))
section
variable {w : World} {p : Program} {loose : List Str} {mean : ExcName → Option Value} {mg mb : Str → Option Value} {base : Heap} {news : List (Addr × Obj)}
set_option maxHeartbeats 2000000 in
inductive Pgreatest_con (news : List (Addr × Obj)) (sa : Addr) (r : Value) (news' : List (Addr × Obj)) : Prop
  | mk (so' ps' ex) (f1 : r = .bool true) (f2 : Src so') (f3 : TabGood (qualL (Str.ofString "_law_greatest_right")) ps' (ex ++ news)) (f4 : news' = (sa, so') :: (366, tabObj ps') :: (ex ++ news)) (f5 : ∀ q ∈ ex, sa < q.1 ∧ ∀ z ∈ news, z.1 < q.1)
theorem greatest_con (XB : (Lw.head.heap_1 w.params).In base) (TB : Top p loose mean mg mb base) (CH : CodeHd base 370 366) (sa : Addr) (so : Obj) (ps : Array Value) (hs : Src so) (TG : TabGood (qualL (Str.ofString "_law_greatest_right")) ps news) (hoff : ∀ p ∈ news, p.1 ≠ sa) (hofP : ∀ p ∈ news, p.1 ≠ 366) (hPs : @LT.lt Nat _ 366 sa) :
    ConT w base 400 4000 371 [.ref sa] ((sa, so) :: (366, tabObj ps) :: news) (Pgreatest_con news sa) (fun _ => False) := by
  w_on
  k_dflt (refine' conT_defCQ (binds := [(Str.ofString "source", .ref sa)]) XB TB ?ho ?hcd ?hb ?hl ?hnd ?hn ?_ ?c2 ?c3 ?c4)
  case ho => k_is
  case hcd => k_is
  case hb => intro _ _; first | exact BindsTo.of_eq rfl | exact binds_K (by assumption) rfl (by k_is) rfl rfl rfl
  case hl => exact rfl
  case hnd => decide +kernel
  case hn => first | decide | omega
  case c2 => rfl
  case c3 => rfl
  case c4 => rfl
  intro dp un gd l sh9 sg9 sd9 sk9 so9 g L' h' tk' cells' Q1 E1 hdp hun AN F' N' Y' l1 B' D' X' T' TT hQ1 hE1
  revert N'
  first | (k_dflt (refine cells1 (G := fun cc9 => News _ _ _ (cc9 ++ _) → _) Y' ?_); intro oc1 dc1) | (k_dflt (refine cells2 (G := fun cc9 => News _ _ _ (cc9 ++ _) → _) Y' ?_); intro oc1 oc2 dc1 dc2) | (k_dflt (refine cells3 (G := fun cc9 => News _ _ _ (cc9 ++ _) → _) Y' ?_); intro oc1 oc2 oc3 dc1 dc2 dc3) | (k_dflt (refine cells4 (G := fun cc9 => News _ _ _ (cc9 ++ _) → _) Y' ?_); intro oc1 oc2 oc3 oc4 dc1 dc2 dc3 dc4) | (k_dflt (refine cells5 (G := fun cc9 => News _ _ _ (cc9 ++ _) → _) Y' ?_); intro oc1 oc2 oc3 oc4 oc5 dc1 dc2 dc3 dc4 dc5)
  intro N'
  clear Y'
  (try dsimp only [List.cons_append, List.nil_append] at N')
  (try dsimp only)
  (try k_fold)
  have hsaL : @LT.lt Nat _ sa L' := l1 _ (.head _)
  have hPL : @LT.lt Nat _ 366 L' := Nat.lt_trans hPs hsaL
  have hnL : ∀ p ∈ news, p.1 < L' := fun p hp => l1 p (List.mem_cons_of_mem _ (List.mem_cons_of_mem _ hp))
  (all_goals (repeat ((with_reducible refine OQ.use (by assumption) ?_); (try dsimp only))))
  w_strict (k_steps)
  (all_goals (repeat ((with_reducible refine OQ.use (by assumption) ?_); (try dsimp only))))
  refine Stop.mk ?_
  refine opk (fun K9 hK9 => ?_)
  k_dflt (refine' one_r 1498 1501 XB TB ?hv (by assumption) (by k_asm) (by k_asm) (by repeat (first | exact Pull.head _ | apply Pull.tail)) (by repeat (first | exact Pull.head _ | apply Pull.tail)) (by assumption) rfl rfl rfl ?hd194 ?hu194 ?hs rfl rfl ?off194 ?ol194 ?hret194)
  case hv => rfl
  case hs => assumption
  case ol194 => first | k_ne
  case hd194 => (dsimp only; first | exact dstep1 hdp rfl | exact dstep hdp rfl | omega)
  case hu194 => (dsimp only; first | exact dstep hun rfl | exact dstep1 hun rfl | omega)
  case off194 => ((repeat (first | (with_reducible assumption) | (with_reducible refine offc ?_ ?_; k_ne) | (with_reducible refine List.forall_mem_cons.mpr ⟨?_, ?_⟩; k_ne))))
  intro many tkm so h' tk' hm0 hm1 hs F' N'
  (try k_sweep)
  (try dsimp only)
  (all_goals (repeat ((with_reducible refine OQ.use (by assumption) ?_); (try dsimp only))))
  w_strict (k_steps)
  (all_goals (repeat ((with_reducible refine OQ.use (by assumption) ?_); (try dsimp only))))
  refine Stop.mk ?_
  refine opk (fun K9 hK9 => ?_)
  k_dflt (refine' take_k XB TB (by assumption) (by k_asm) (by k_asm) (by repeat (first | exact Pull.head _ | apply Pull.tail)) (by assumption) rfl rfl rfl ?hd195 ?hu195 ?hs ?h0195 ?h1195 ?off195 ?hret195)
  case hs => assumption
  case h0195 => first | decide | omega
  case h1195 => first | decide | omega
  case hd195 => (dsimp only; first | exact dstep1 hdp rfl | exact dstep hdp rfl | omega)
  case hu195 => (dsimp only; first | exact dstep hun rfl | exact dstep1 hun rfl | omega)
  case off195 => ((repeat (first | (with_reducible assumption) | (with_reducible refine offc ?_ ?_; k_ne) | (with_reducible refine List.forall_mem_cons.mpr ⟨?_, ?_⟩; k_ne))))
  intro d1 td so h' tk' hlod1 hhid1 hs F' N'
  (try k_sweep)
  (try dsimp only)
  (all_goals (repeat ((with_reducible refine OQ.use (by assumption) ?_); (try dsimp only))))
  w_strict (k_steps)
  (all_goals (repeat ((with_reducible refine OQ.use (by assumption) ?_); (try dsimp only))))
  refine Stop.mk ?_
  refine opk (fun K9 hK9 => ?_)
  k_dflt (refine' mk_rep (n := many) ?kbaF196 ?kbaN196 ?kbah196 ?kbal196 ?kbai196 ?kbar196 ?kban196 ?hd196 ?_)
  case kbaF196 => k_asm
  case kbaN196 => k_asm
  case kbah196 => rfl
  case kbal196 => kba_isList
  case kbai196 => omega
  case kbar196 => omega
  case kban196 => omega
  case hd196 => omega
  intro h' t' k' bb ks F' N' hbb hks
  (try k_sweep)
  (try dsimp only)
  (all_goals (repeat ((with_reducible refine OQ.use (by assumption) ?_); (try dsimp only))))
  w_strict (k_steps)
  (all_goals (repeat ((with_reducible refine OQ.use (by assumption) ?_); (try dsimp only))))
  rename News _ _ _ _ => N9
  rcases news_thin N9 (by repeat (first | apply Thin.dropL | apply Thin.dropT | apply Thin.keep | exact Thin.nil _)) with N'
  clear N9
  refine Stop.mk ?_
  refine opk (fun K9 hK9 => ?_)
  k_dflt (refine' con_step (lawframe XB TB sa so _ _ ?hs ?off198) (by assumption) (by k_asm) (by k_asm) (by assumption) rfl rfl rfl ?hd198 ?hu198 ?hesc198 ?hret198)
  case hs => assumption
  case off198 => ((repeat (first | (with_reducible assumption) | (with_reducible refine offc ?_ ?_; k_ne) | (with_reducible refine List.forall_mem_cons.mpr ⟨?_, ?_⟩; k_ne))))
  case hd198 => (dsimp only; first | exact dstep1 hdp rfl | exact dstep hdp rfl | omega)
  case hu198 => (dsimp only; first | exact dstep hun rfl | exact dstep1 hun rfl | omega)
  case hesc198 => exact fun _ _ _ _ q _ => q.elim
  intro r9 h' tk' news' F' N' P9
  (try k_sweep)
  obtain ⟨z, so, ex0, x, tgs, kd, ln, rfl, hs, rfl, Fi, hkd, hT, hn2, hx0, hx1, hAF⟩ := P9
  (try dsimp only)
  rcases news_mid [_, _, _, _] N' with N2
  simp only [List.cons_append, List.nil_append] at N2
  clear N'
  have heS : ∀ p ∈ ex0, p.1 ≠ sa := fun p hp => Nat.ne_of_gt (hAF p hp).1
  have heP : ∀ p ∈ ex0, p.1 ≠ 366 := fun p hp => Nat.ne_of_gt ((hAF p hp).2 (366, _) (by k_mem))
  have hea : ∀ p ∈ ex0, p.1 ≠ L' + 1 := fun p hp => Nat.ne_of_gt ((hAF p hp).2 (L' + 1, _) (by k_mem))
  have heb : ∀ p ∈ ex0, p.1 ≠ L' + 1 + 1 := fun p hp => Nat.ne_of_gt ((hAF p hp).2 (L' + 1 + 1, _) (by k_mem))
  have hec : ∀ p ∈ ex0, p.1 ≠ L' + 1 + 1 + 1 := fun p hp => Nat.ne_of_gt ((hAF p hp).2 (L' + 1 + 1 + 1, _) (by k_mem))
  have h0S : ∀ p ∈ news, p.1 ≠ sa := hoff
  have h0P : ∀ p ∈ news, p.1 ≠ 366 := hofP
  have h0a : ∀ p ∈ news, p.1 ≠ L' + 1 := all_of_lt hnL (by first | exact Nat.le_add_right _ 1 | exact Nat.le_add_right _ 2 | exact Nat.le_add_right _ 3 | exact Nat.le_add_right _ 4 | exact Nat.le_add_right _ 5)
  have h0b : ∀ p ∈ news, p.1 ≠ L' + 1 + 1 := all_of_lt hnL (by first | exact Nat.le_add_right _ 1 | exact Nat.le_add_right _ 2 | exact Nat.le_add_right _ 3 | exact Nat.le_add_right _ 4 | exact Nat.le_add_right _ 5)
  have h0c : ∀ p ∈ news, p.1 ≠ L' + 1 + 1 + 1 := all_of_lt hnL (by first | exact Nat.le_add_right _ 1 | exact Nat.le_add_right _ 2 | exact Nat.le_add_right _ 3 | exact Nat.le_add_right _ 4 | exact Nat.le_add_right _ 5)
  have ht0P := off_both heP h0P
  have ht0a := off_both hea h0a
  have ht0b := off_both heb h0b
  have ht0c := off_both hec h0c
  have FM := Fi
  obtain ⟨dx, ta, vs, tn, tx, ty, tb, t1, t2, t3, t4, t5, m1, m2, m3, hTI⟩ := FM
  have lz := (hAF _ m1).2
  have lz0 : @LT.lt Nat _ sa z := (hAF _ m1).1
  have ldx := (hAF _ m2).2
  have ldx0 : @LT.lt Nat _ sa dx := (hAF _ m2).1
  have lta := (hAF _ m3).2
  have lta0 : @LT.lt Nat _ sa ta := (hAF _ m3).1
  k_lt lz
  k_lt ldx
  k_lt lta
  rcases news_dup3 N2 (fun p9 hp9 => by repeat (first | exact List.mem_append_left _ hp9 | refine List.mem_cons_of_mem _ ?_)) m1 m2 m3 with N'
  clear N2
  (all_goals (repeat ((with_reducible refine OQ.use (by assumption) ?_); (try dsimp only))))
  w_strict (k_steps)
  (all_goals (repeat ((with_reducible refine OQ.use (by assumption) ?_); (try dsimp only))))
  refine Stop.mk ?_
  refine opk (fun K9 hK9 => ?_)
  k_dflt (refine' lam_any2 (P := 366) (by k_asm) (news_pull (by k_asm) (by repeat (first | exact Pull.head _ | apply Pull.tail))) (by assumption) (CodeHd.keeps CH (Below.stays (by assumption))) rfl ?off199 (SplitA.toS (by repeat (first | exact SplitA.nil | apply SplitA.cons | apply SplitA.app))) TG rfl rfl ?hret199)
  case off199 => ((repeat (first | (with_reducible assumption) | exact List.forall_mem_nil _ | (with_reducible refine offc ?_ ?_; k_ne) | (with_reducible refine List.forall_mem_cons.mpr ⟨?_, ?_⟩; k_ne))))
  intro f1 c1 pm ctv h' tk' ps ex1 F' N' TG1 R1 E1 G1
  (try k_sweep)
  dsimp only [AllLt] at G1
  simp only [List.cons_append, List.nil_append, List.append_nil, List.append_assoc] at N' R1
  (try dsimp only)
  (all_goals (repeat ((with_reducible refine OQ.use (by assumption) ?_); (try dsimp only))))
  w_strict (k_steps)
  (all_goals (repeat ((with_reducible refine OQ.use (by assumption) ?_); (try dsimp only))))
  refine Stop.mk ?_
  refine opk (fun K9 hK9 => ?_)
  k_dflt (refine' conT_step (heardK_size (ln = true ∧ 1500 < ks.length) (fun r => ¬ (ln = true ∧ 1500 < ks.length) ∧ IsB r (packB x 9 (tagsB tgs) (kindB ln ks.length) ks)) (dn := 100) (un' := 1000) XB TB ?pull200 ?CL1) (by assumption) XB TB (by k_asm) (by k_asm) (by assumption) (by assumption) rfl rfl rfl ?hd200 ?hu200 ?hesc200 ?CR1)
  case pull200 => k_mem
  case hd200 => (dsimp only; first | exact dstep1 hdp rfl | exact dstep hdp rfl | omega)
  case hu200 => (dsimp only; first | exact dstep hun rfl | exact dstep1 hun rfl | omega)
  case hesc200 => exact fun _ _ _ _ q _ => q.elim
  case CL1 =>
    refine' con_lamQ XB TB (by k_mem) (R1.mono (fun q hq => .tail _ (.tail _ hq))) rfl (locs rfl) (by decide) ?_ (by decide) rfl rfl rfl
    intro dp un gd l sh9 sg9 sd9 sk9 so9 g L' h' Q1 E1 hdp hun AN F' N' l1 B' D' X' T' TT hQ1 hE1
    (try dsimp only)
    (try k_fold)
    (all_goals (repeat ((with_reducible refine OQ.use (by assumption) ?_); (try dsimp only))))
    w_strict (k_steps)
    (all_goals (repeat ((with_reducible refine OQ.use (by assumption) ?_); (try dsimp only))))
    refine Stop.mk ?_
    refine opk (fun K9 hK9 => ?_)
    k_dflt (refine' con_step (pack_in (Fi := ?Fi9202) (y := 9) XB TB ln ks hkd hbb hT hx0 hx1 (by decide) (by decide) (by first | decide | omega) hn2) (by assumption) (by k_asm) (by k_asm) (by assumption) rfl rfl rfl ?hd202 ?hu202 ?hesc202 ?hret202)
    case Fi9202 => exact Fi.mono (fun p9 hp9 => by repeat (first | exact List.mem_append_left _ hp9 | refine List.mem_cons_of_mem _ ?_))
    case hd202 => (dsimp only; first | exact dstep1 hdp rfl | exact dstep hdp rfl | omega)
    case hu202 => (dsimp only; first | exact dstep hun rfl | exact dstep1 hun rfl | omega)
    case hesc202 =>
      refine con_pass2 (by first | exact fun _ _ x => x | (rename EQ9 _ _ => hE9; exact EQ9.pass hE9)) (by assumption) (by k_asm) (by k_asm) (by assumption) rfl ?sub202 rfl rfl ?pe202
      case sub202 => intro _ hq; repeat (first | exact hq | refine List.mem_cons_of_mem _ ?_)
      case pe202 => first | exact fun _ x => x | exact fun _ x => ⟨trivial, x⟩
    intro r9 h' tk' news' F' N' P9
    (try k_sweep)
    (try dsimp only)
    obtain ⟨rfl, P9⟩ := P9
    (all_goals (repeat ((with_reducible refine OQ.use (by assumption) ?_); (try dsimp only))))
    w_strict (k_steps)
    (all_goals (repeat ((with_reducible refine OQ.use (by assumption) ?_); (try dsimp only))))
    refine end_c (by k_asm) ?keepN TT ⟨rfl, by assumption⟩
    case keepN => exact news_sub (by k_asm) (fun q hq => by repeat (first | exact hq | refine List.mem_cons_of_mem _ ?_))
  case CR1 =>
  clear B' D' X' T' TT F' N'
  intro r gk' h' tk' news' F' N' B' D' TT X' T' P9
  obtain ⟨rfl, P9⟩ := P9
  (try dsimp only)
  have h1S := off_app (a := sa) (fun q hq => (E1 q hq).1.2 (sa, _) (by k_mem)) h0S
  have h1a := off_app (a := L' + 1) (fun q hq => (E1 q hq).1.2 (L' + 1, _) (by k_mem)) h0a
  have h1b := off_app (a := L' + 1 + 1) (fun q hq => (E1 q hq).1.2 (L' + 1 + 1, _) (by k_mem)) h0b
  have h1c := off_app (a := L' + 1 + 1 + 1) (fun q hq => (E1 q hq).1.2 (L' + 1 + 1 + 1, _) (by k_mem)) h0c
  have h1P := off_app (a := 366) (fun q hq => (E1 q hq).1.1) h0P
  have ht1S := off_both heS h1S
  have ht1P := off_both heP h1P
  have ht1a := off_both hea h1a
  have ht1b := off_both heb h1b
  have ht1c := off_both hec h1c
  rcases P9 with ⟨hnB, hIB⟩ | ⟨⟨hln, hB⟩, tk5, rfl⟩
  rotate_left
  · subst hln
    obtain rfl : kd = .none := hkd
    (all_goals (repeat ((with_reducible refine OQ.use (by assumption) ?_); (try dsimp only))))
    w_strict (k_steps)
    (all_goals (repeat ((with_reducible refine OQ.use (by assumption) ?_); (try dsimp only))))
    (try dsimp only)
    (all_goals (repeat ((with_reducible refine OQ.use (by assumption) ?_); (try dsimp only))))
    refine endT_c (by k_asm) ?endN1 TT ⟨so, ps, ex1, rfl, hs, TG1, rfl, ?endL1⟩
    case endN1 =>
      exact news_sub (by k_asm) (List.forall_mem_cons.mpr ⟨(by repeat (first | exact List.Mem.head _ | refine List.mem_cons_of_mem _ ?_ | refine List.mem_append_right _ ?_)), List.forall_mem_cons.mpr ⟨(by repeat (first | exact List.Mem.head _ | refine List.mem_cons_of_mem _ ?_ | refine List.mem_append_right _ ?_)), fun q hq => by repeat (first | exact hq | refine List.mem_cons_of_mem _ ?_ | refine List.mem_append_right _ ?_)⟩⟩)
    case endL1 =>
      intro q hq
      exact ⟨(E1 q hq).1.2 (sa, _) (by k_mem), fun z hz => (E1 q hq).1.2 z (by repeat (first | exact hz | refine List.mem_cons_of_mem _ ?_ | refine List.mem_append_right _ ?_))⟩
  obtain ⟨wb, wt, rfl, hwb⟩ := hIB
  have hln : ln = true → ks.length ≤ 1500 := fun e => by
    by_cases c : 1500 < ks.length
    · exact absurd ⟨e, c⟩ hnB
    · omega
  have hwl : ((packB x 9 (tagsB tgs) (kindB ln ks.length) ks).length : Int) = max 60 (14 + 4 * (tgs.length : Int) + (ks.length : Int)) + 4 := by
    rw [packB_len]; exact mx_cast _ _
  obtain ⟨ws, hws⟩ : ∃ ws, ws = packB x 9 (tagsB tgs) (kindB ln ks.length) ks := ⟨_, rfl⟩
  rw [← hws] at hwb hwl
  have hcut : CutIf := trivial
  (all_goals (repeat ((with_reducible refine OQ.use (by assumption) ?_); (try dsimp only))))
  w_strict (k_steps)
  (all_goals (repeat ((with_reducible refine OQ.use (by assumption) ?_); (try dsimp only))))
  refine Stop.mk ?_
  (all_goals (repeat ((with_reducible refine OQ.use (by assumption) ?_); (try dsimp only))))
  k_dflt (refine cut_at (fun fl => fl = Flow.next) (by k_asm) (by k_asm) ?cutH ?cutI)
  case cutH =>
    intro go
    by_cases hm : 1500 < many
    · cases ln with
      | true => exact absurd (hln rfl) (by first | decide | omega)
      | false =>
        obtain ⟨tkk, rfl⟩ : ∃ t, kd = .int 2048 t := hkd
        (all_goals (repeat ((with_reducible refine OQ.use (by assumption) ?_); (try dsimp only))))
        w_strict (k_steps)
        (all_goals (repeat ((with_reducible refine OQ.use (by assumption) ?_); (try dsimp only))))
        (all_goals (repeat ((with_reducible refine OQ.use (by assumption) ?_); (try dsimp only))))
        exact cut_end (by k_asm) (by k_asm) rfl
    · (all_goals (repeat ((with_reducible refine OQ.use (by assumption) ?_); (try dsimp only))))
      w_strict (k_steps)
      (all_goals (repeat ((with_reducible refine OQ.use (by assumption) ?_); (try dsimp only))))
      (all_goals (repeat ((with_reducible refine OQ.use (by assumption) ?_); (try dsimp only))))
      exact cut_end (by k_asm) (by k_asm) rfl
  case cutI =>
  intro fl h' tk' F' N' hfl
  subst hfl
  (all_goals (repeat ((with_reducible refine OQ.use (by assumption) ?_); (try dsimp only))))
  w_strict (k_steps)
  (all_goals (repeat ((with_reducible refine OQ.use (by assumption) ?_); (try dsimp only))))
  refine Stop.mk ?_
  refine opk (fun K9 hK9 => ?_)
  k_dflt (refine' con_step (told_in (Fi := ?Fi9205) XB TB ln hkd hn2) (by assumption) (by k_asm) (by k_asm) (by assumption) rfl rfl rfl ?hd205 ?hu205 ?hesc205 ?hret205)
  case Fi9205 => exact Fi.mono (fun p9 hp9 => by repeat (first | exact List.mem_append_left _ hp9 | refine List.mem_cons_of_mem _ ?_))
  case hd205 => (dsimp only; first | exact dstep1 hdp rfl | exact dstep hdp rfl | omega)
  case hu205 => (dsimp only; first | exact dstep hun rfl | exact dstep1 hun rfl | omega)
  case hesc205 => exact fun _ _ _ _ q _ => q.elim
  intro r9 h' tk' news' F' N' P9
  (try k_sweep)
  (try dsimp only)
  obtain ⟨nq, rfl, q, tt, tx2, ty2, tb2, nt, rfl, hnq, hTT, hnt⟩ := P9
  have hq0 : ∀ p ∈ nq, ∃ its n, p.2 = (⟨Value.type "tuple", none, Data.seq its n, #[]⟩ : Obj) := by
    rw [hnq]
    exact List.forall_mem_cons.mpr ⟨⟨_, _, rfl⟩, hnt⟩
  have hq1 : (q, (⟨Value.type "tuple", none, Data.seq #[.int x tx2, .int 9 ty2, .ref tt, kd, .bytes bb tb2] 0, #[]⟩ : Obj)) ∈ nq := by
    rw [hnq]
    exact .head _
  have hTT' : TagsTup nq tgs tt := hTT.mono (fun p hp => by rw [hnq]; exact .tail _ hp)
  rcases thin_told N' with N2
  clear N'
  have hnS : ∀ p ∈ nq, p.1 ≠ sa := off_src N2 (fun p9 hp9 => by repeat (first | exact List.mem_append_left _ hp9 | refine List.mem_cons_of_mem _ ?_)) hq0 (by k_mem) hs
  have hnP : ∀ p ∈ nq, p.1 ≠ 366 := off_tup (o := tabObj ps) N2 (fun p9 hp9 => by repeat (first | exact List.mem_append_left _ hp9 | refine List.mem_cons_of_mem _ ?_)) hq0 (by k_mem) (fun _ _ e => nomatch e)
  have hna : ∀ p ∈ nq, p.1 ≠ L' + 1 := off_cell N2 (fun p9 hp9 => by repeat (first | exact List.mem_append_left _ hp9 | refine List.mem_cons_of_mem _ ?_)) hq0 (by k_mem) (by assumption)
  have hnb : ∀ p ∈ nq, p.1 ≠ L' + 1 + 1 := off_cell N2 (fun p9 hp9 => by repeat (first | exact List.mem_append_left _ hp9 | refine List.mem_cons_of_mem _ ?_)) hq0 (by k_mem) (by assumption)
  have hnc : ∀ p ∈ nq, p.1 ≠ L' + 1 + 1 + 1 := off_cell N2 (fun p9 hp9 => by repeat (first | exact List.mem_append_left _ hp9 | refine List.mem_cons_of_mem _ ?_)) hq0 (by k_mem) (by assumption)
  have ht2S := off_both hnS h1S
  have ht2P := off_both hnP h1P
  have ht2a := off_both hna h1a
  have ht2b := off_both hnb h1b
  have ht2c := off_both hnc h1c
  (all_goals (repeat ((with_reducible refine OQ.use (by assumption) ?_); (try dsimp only))))
  w_strict (k_steps)
  (all_goals (repeat ((with_reducible refine OQ.use (by assumption) ?_); (try dsimp only))))
  refine Stop.mk ?_
  refine opk (fun K9 hK9 => ?_)
  k_dflt (refine' one_m XB TB (by assumption) (by k_asm) (by k_asm) (by repeat (first | exact Pull.head _ | apply Pull.tail)) (by repeat (first | exact Pull.head _ | apply Pull.tail)) (by assumption) rfl rfl rfl ?hd206 ?hu206 ?hs rfl rfl ?off206 ?ol206 ?hret206)
  case hs => assumption
  case ol206 => first | k_ne
  case hd206 => (dsimp only; first | exact dstep1 hdp rfl | exact dstep hdp rfl | omega)
  case hu206 => (dsimp only; first | exact dstep hun rfl | exact dstep1 hun rfl | omega)
  case off206 => ((repeat (first | (with_reducible assumption) | (with_reducible refine offc ?_ ?_; k_ne) | (with_reducible refine List.forall_mem_cons.mpr ⟨?_, ?_⟩; k_ne))))
  intro r9 so h' tk' hr9 hs F' N'
  (try k_sweep)
  (try dsimp only)
  obtain ⟨m, tkq, rfl, hmm⟩ : ∃ k tk, r9 = .int k tk ∧ (k = 1522 ∨ k = (ws.length : Int)) := by
    simp only [List.mem_cons, List.not_mem_nil, or_false] at hr9
    rcases hr9 with h | h
    · exact ⟨_, _, h, .inl rfl⟩
    · exact ⟨_, _, h, .inr rfl⟩
  clear hr9
  rcases news_thin N' (by repeat (first | apply Thin.dropL | apply Thin.keep | exact Thin.nil _)) with N2
  clear N'
  (all_goals (repeat ((with_reducible refine OQ.use (by assumption) ?_); (try dsimp only))))
  w_strict (k_steps)
  (all_goals (repeat ((with_reducible refine OQ.use (by assumption) ?_); (try dsimp only))))
  refine Stop.mk ?_
  refine opk (fun K9 hK9 => ?_)
  k_dflt (refine' lam_any2 (P := 366) (by k_asm) (news_pull (by k_asm) (by repeat (first | exact Pull.head _ | apply Pull.tail))) (by assumption) (CodeHd.keeps CH (Below.stays (by assumption))) rfl ?off207 (SplitA.toS (by repeat (first | exact SplitA.nil | apply SplitA.cons | apply SplitA.app))) TG1 rfl rfl ?hret207)
  case off207 => ((repeat (first | (with_reducible assumption) | exact List.forall_mem_nil _ | (with_reducible refine offc ?_ ?_; k_ne) | (with_reducible refine List.forall_mem_cons.mpr ⟨?_, ?_⟩; k_ne))))
  intro f2 c2 pm ctv h' tk' ps ex2 F' N' TG2 R2 E2 G2
  (try k_sweep)
  dsimp only [AllLt] at G2
  simp only [List.cons_append, List.nil_append, List.append_nil, List.append_assoc] at N' R2
  (try dsimp only)
  (all_goals (repeat ((with_reducible refine OQ.use (by assumption) ?_); (try dsimp only))))
  w_strict (k_steps)
  (all_goals (repeat ((with_reducible refine OQ.use (by assumption) ?_); (try dsimp only))))
  refine Stop.mk ?_
  refine opk (fun K9 hK9 => ?_)
  k_dflt (refine' conT_step (heardK_unp (m < (ws.length : Int)) x 9 tgs ln ks (dn := 140) (un' := 2000) XB TB ?pull208 ?CL2) (by assumption) XB TB (by k_asm) (by k_asm) (by assumption) (by assumption) rfl rfl rfl ?hd208 ?hu208 ?hesc208 ?CR2)
  case pull208 => k_mem
  case hd208 => (dsimp only; first | exact dstep1 hdp rfl | exact dstep hdp rfl | omega)
  case hu208 => (dsimp only; first | exact dstep hun rfl | exact dstep1 hun rfl | omega)
  case hesc208 => exact fun _ _ _ _ q _ => q.elim
  case CL2 =>
    have go : GoIf := trivial
    refine' con_lamQ XB TB (by k_mem) (R2.mono (fun q hq => .tail _ (.tail _ hq))) rfl (locs rfl) (by decide) ?_ (by decide) rfl rfl rfl
    intro dp un gd l sh9 sg9 sd9 sk9 so9 g L' h' Q1 E1 hdp hun AN F' N' l1 B' D' X' T' TT hQ1 hE1
    (try dsimp only)
    (try k_fold)
    by_cases c : m = 1522
    · obtain rfl := c
      (all_goals (repeat ((with_reducible refine OQ.use (by assumption) ?_); (try dsimp only))))
      w_strict (k_steps)
      (all_goals (repeat ((with_reducible refine OQ.use (by assumption) ?_); (try dsimp only))))
      refine Stop.mk ?_
      refine opk (fun K9 hK9 => ?_)
      k_dflt (refine' con_step (unpack_any XB TB x 9 tgs ln ks wb _ _ _ _ (ubinds1 _ _) (hwb.trans hws) hT hx0 hx1 (by decide) (by decide) (by first | decide | omega) hln hn2 (ws.length : Int) hwl) (by assumption) (by k_asm) (by k_asm) (by assumption) rfl rfl rfl ?hd210 ?hu210 ?hesc210 ?hret210)
      case hd210 => (dsimp only; first | exact dstep1 hdp rfl | exact dstep hdp rfl | omega)
      case hu210 => (dsimp only; first | exact dstep hun rfl | exact dstep1 hun rfl | omega)
      case hesc210 =>
        refine con_pass2 (by first | exact fun _ _ x => x | (rename EQ9 _ _ => hE9; exact EQ9.pass hE9)) (by assumption) (by k_asm) (by k_asm) (by assumption) rfl ?sub210 rfl rfl ?pe210
        case sub210 => intro _ hq; repeat (first | exact hq | refine List.mem_cons_of_mem _ ?_)
        case pe210 => first | exact fun _ x => x | exact fun _ x => ⟨trivial, x⟩
      intro r9 h' tk' news' F' N' P9
      (try k_sweep)
      (try dsimp only)
      (all_goals (repeat ((with_reducible refine OQ.use (by assumption) ?_); (try dsimp only))))
      exact end_c (by k_asm) (by k_asm) TT P9
    · (all_goals (repeat ((with_reducible refine OQ.use (by assumption) ?_); (try dsimp only))))
      w_strict (k_steps)
      (all_goals (repeat ((with_reducible refine OQ.use (by assumption) ?_); (try dsimp only))))
      refine Stop.mk ?_
      refine opk (fun K9 hK9 => ?_)
      k_dflt (refine' con_step (unpack_any XB TB x 9 tgs ln ks wb _ _ _ _ (ubinds2 _ _ _ _) (hwb.trans hws) hT hx0 hx1 (by decide) (by decide) (by first | decide | omega) hln hn2 (ws.length : Int) hwl) (by assumption) (by k_asm) (by k_asm) (by assumption) rfl rfl rfl ?hd211 ?hu211 ?hesc211 ?hret211)
      case hd211 => (dsimp only; first | exact dstep1 hdp rfl | exact dstep hdp rfl | omega)
      case hu211 => (dsimp only; first | exact dstep hun rfl | exact dstep1 hun rfl | omega)
      case hesc211 =>
        refine con_pass2 (by first | exact fun _ _ x => x | (rename EQ9 _ _ => hE9; exact EQ9.pass hE9)) (by assumption) (by k_asm) (by k_asm) (by assumption) rfl ?sub211 rfl rfl ?pe211
        case sub211 => intro _ hq; repeat (first | exact hq | refine List.mem_cons_of_mem _ ?_)
        case pe211 => first | exact fun _ x => x | exact fun _ x => ⟨trivial, x⟩
      intro r9 h' tk' news' F' N' P9
      (try k_sweep)
      (try dsimp only)
      (all_goals (repeat ((with_reducible refine OQ.use (by assumption) ?_); (try dsimp only))))
      exact end_c (by k_asm) (by k_asm) TT P9
  case CR2 =>
  clear B' D' X' T' TT F' N'
  intro r gk' h' tk' news' F' N' B' D' TT X' T' P9
  have go : GoIf := trivial
  rcases P9 with ⟨hnb2, P9⟩ | ⟨hb2, rfl, tk5, rfl⟩
  rotate_left
  · (all_goals (repeat ((with_reducible refine OQ.use (by assumption) ?_); (try dsimp only))))
    w_strict (k_steps)
    (all_goals (repeat ((with_reducible refine OQ.use (by assumption) ?_); (try dsimp only))))
    (try dsimp only)
    (all_goals (repeat ((with_reducible refine OQ.use (by assumption) ?_); (try dsimp only))))
    refine endT_c (by k_asm) ?endN2 TT ⟨so, ps, (ex2 ++ ex1), rfl, hs, by rw [List.append_assoc]; exact TG2, rfl, ?endL2⟩
    case endN2 =>
      rw [List.append_assoc]
      exact news_sub (by k_asm) (List.forall_mem_cons.mpr ⟨(by repeat (first | exact List.Mem.head _ | refine List.mem_cons_of_mem _ ?_ | refine List.mem_append_right _ ?_)), List.forall_mem_cons.mpr ⟨(by repeat (first | exact List.Mem.head _ | refine List.mem_cons_of_mem _ ?_ | refine List.mem_append_right _ ?_)), fun q hq => by repeat (first | exact hq | refine List.mem_cons_of_mem _ ?_ | refine List.mem_append_right _ ?_)⟩⟩)
    case endL2 =>
      intro q hq
      rcases List.mem_append.mp hq with h | h
      · exact ⟨(E2 q h).1.2 (sa, _) (by repeat (first | exact List.Mem.head _ | refine List.mem_cons_of_mem _ ?_ | refine List.mem_append_right _ ?_)), fun z hz => (E2 q h).1.2 z (by repeat (first | exact hz | refine List.mem_cons_of_mem _ ?_ | refine List.mem_append_right _ ?_))⟩
      · exact ⟨(E1 q h).1.2 (sa, _) (by k_mem), fun z hz => (E1 q h).1.2 z (by repeat (first | exact hz | refine List.mem_cons_of_mem _ ?_ | refine List.mem_append_right _ ?_))⟩
  obtain ⟨nw, rfl, z2, kd2, pb2, rfl, Fu, hk2, hp2⟩ := P9
  have FM := Fu
  obtain ⟨dx2, ta2, vs2, tn2, tx3, ty3, tb3, s1, s2, s3, s4, s5, m1, m2, m3, hTI2⟩ := FM
  rcases thin_unp N' with N3
  clear N'
  rcases news_dup3 N3 (fun p9 hp9 => by repeat (first | exact List.mem_append_left _ hp9 | refine List.mem_cons_of_mem _ ?_)) m1 m2 m3 with N2
  clear N3
  (all_goals (repeat ((with_reducible refine OQ.use (by assumption) ?_); (try dsimp only))))
  w_strict (k_steps)
  (all_goals (repeat ((with_reducible refine OQ.use (by assumption) ?_); (try dsimp only))))
  have Fi := Fu
  refine Stop.mk ?_
  refine opk (fun K9 hK9 => ?_)
  k_dflt (refine' con_step (told_in (Fi := ?Fi9212) XB TB ln hk2 hn2) (by assumption) (by k_asm) (by k_asm) (by assumption) rfl rfl rfl ?hd212 ?hu212 ?hesc212 ?hret212)
  case Fi9212 => exact Fi.mono (fun p9 hp9 => by repeat (first | exact List.mem_append_left _ hp9 | refine List.mem_cons_of_mem _ ?_))
  case hd212 => (dsimp only; first | exact dstep1 hdp rfl | exact dstep hdp rfl | omega)
  case hu212 => (dsimp only; first | exact dstep hun rfl | exact dstep1 hun rfl | omega)
  case hesc212 => exact fun _ _ _ _ q _ => q.elim
  intro r9 h' tk' news' F' N' P9
  (try k_sweep)
  (try dsimp only)
  obtain ⟨_, rfl, q2, tt3, tx4, ty4, tb4, nt2, rfl, rfl, hTT2, hnt2⟩ := P9
  simp only [List.cons_append] at N'
  (all_goals (repeat ((with_reducible refine OQ.use (by assumption) ?_); (try dsimp only))))
  w_strict (k_steps)
  (all_goals (repeat ((with_reducible refine OQ.use (by assumption) ?_); (try dsimp only))))
  refine Stop.mk ?_
  (all_goals (repeat ((with_reducible refine OQ.use (by assumption) ?_); (try dsimp only))))
  k_dflt (refine told_eq (by k_asm) (List.Mem.head _) ((show ∀ p ∈ nq, p ∈ _ from (fun p9 hp9 => by repeat (first | exact List.mem_append_left _ hp9 | refine List.mem_cons_of_mem _ ?_ | refine List.mem_append_right _ ?_))) _ hq1) (hTT2.mono (fun p9 hp9 => by repeat (first | exact List.mem_append_left _ hp9 | refine List.mem_cons_of_mem _ ?_ | refine List.mem_append_right _ ?_))) (hTT'.mono (fun p9 hp9 => by repeat (first | exact List.mem_append_left _ hp9 | refine List.mem_cons_of_mem _ ?_ | refine List.mem_append_right _ ?_))) hk2 hkd hp2 (hbb.trans (payB_big (by first | decide | omega)).symm) (by (dsimp only [Around.deeper, At]; omega)) ?_)
  (all_goals (repeat ((with_reducible refine OQ.use (by assumption) ?_); (try dsimp only))))
  w_strict (k_steps)
  (all_goals (repeat ((with_reducible refine OQ.use (by assumption) ?_); (try dsimp only))))
  (try dsimp only)
  (all_goals (repeat ((with_reducible refine OQ.use (by assumption) ?_); (try dsimp only))))
  refine endT_c (by k_asm) ?endN3 TT ⟨so, ps, (ex2 ++ ex1), rfl, hs, by rw [List.append_assoc]; exact TG2, rfl, ?endL3⟩
  case endN3 =>
    rw [List.append_assoc]
    exact news_sub (by k_asm) (List.forall_mem_cons.mpr ⟨(by repeat (first | exact List.Mem.head _ | refine List.mem_cons_of_mem _ ?_ | refine List.mem_append_right _ ?_)), List.forall_mem_cons.mpr ⟨(by repeat (first | exact List.Mem.head _ | refine List.mem_cons_of_mem _ ?_ | refine List.mem_append_right _ ?_)), fun q hq => by repeat (first | exact hq | refine List.mem_cons_of_mem _ ?_ | refine List.mem_append_right _ ?_)⟩⟩)
  case endL3 =>
    intro q hq
    rcases List.mem_append.mp hq with h | h
    · exact ⟨(E2 q h).1.2 (sa, _) (by repeat (first | exact List.Mem.head _ | refine List.mem_cons_of_mem _ ?_ | refine List.mem_append_right _ ?_)), fun z hz => (E2 q h).1.2 z (by repeat (first | exact hz | refine List.mem_cons_of_mem _ ?_ | refine List.mem_append_right _ ?_))⟩
    · exact ⟨(E1 q h).1.2 (sa, _) (by k_mem), fun z hz => (E1 q h).1.2 z (by repeat (first | exact hz | refine List.mem_cons_of_mem _ ?_ | refine List.mem_append_right _ ?_))⟩
end
section
variable {w : World} {p : Program} {loose : List Str} {mean : ExcName → Option Value} {mg mb : Str → Option Value} {base : Heap} {news : List (Addr × Obj)}
theorem frs_nil : frs [] = [] := rfl
section
variable {A A₀ : Around} {gk : Heap} {L' f : Addr} {m' : Str → Option Value} {s : Shared} {Q E : Value → Shared → Prop} {dn un' : Nat} {vs : List Value} {Post : Value → List (Addr × Obj) → Prop} {PE : Value → Prop}
theorem conT_top (Cn : ConT w base dn un' f vs news Post PE) {dp un : Nat} {gd : Option (List Code)} {cn : Str} {cs : Scope} {a : Addr} {ccd : Value} {cl : List (Str × Addr)} {prog : Program}
    (B : Below A₀ base [] gk) (F : Fr gk L' s.heap m') (N : News gk L' s.heap news) (D : KtsDicts (frs []) gk)
    (hp : prog = PySem.Challenge.pw_pf0385_01) (hA : A = At dp un gd (envX cn cs L' a ccd cl :: [])) (hk : cs.kind = .function) (hd : dp + dn < recursionLimit) (hu : un + un' < cLine)
    (hesc : ∀ e cls h' tk', PE cls → Flew base (envX cn cs L' a ccd cl :: []) e cls s.heap h' → E (.ref e) { s with heap := h', toks := tk' })
    (hret : ∀ r h' tk' news', Fr gk L' h' m' → News gk L' h' news' → Post r news' → Q r { s with heap := h', toks := tk' }) :
    wpAny (model prog w) A (call (.ref f) vs) Q E s := by
  subst hp hA
  refine Cn dp un gd cn cs a ccd cl [] A₀ gk L' m' s Q E B F N D hk hd hu (fun r h₀' h' tk' news' x1 x2 x3 x4 x5 => ?_) hesc
  have k : ∀ b o, gk.get? b = some o → h₀'.get? b = some o := fun b o e => x2.other b o e (by simp)
  refine hret r h' tk' news' ⟨x4.ns, fun b o e => x4.keep b o (k b o e), ?_⟩ (fun p hp => ⟨(x5 p hp).1, (x5 p hp).2.1, ?_⟩) x1
  · rw [← x2.size]
    exact x4.above
  · cases q : gk.get? p.1 with
    | none => rfl
    | some o =>
      have := (x5 p hp).2.2
      rw [k _ _ q] at this
      cases this
end
theorem conT_adj {dn un' : Nat} {f : Addr} {vs : List Value} {l l' : List (Addr × Obj)} {Post Post' : Value → List (Addr × Obj) → Prop} {PE : Value → Prop} (C : ConT w base dn un' f vs l Post PE) (h : ∀ p ∈ l, p ∈ l') (hp : ∀ r n, Post r n → ∃ n', Post' r n' ∧ ∀ p ∈ n', p ∈ n) : ConT w base dn un' f vs l' Post' PE :=
  fun dp un gd cn cs a ccd cl outer A₀ h₀ L m s Q E B F N D hcs hdp hun hret hesc =>
  C dp un gd cn cs a ccd cl outer A₀ h₀ L m s Q E B F (fun p q => N p (h p q)) D hcs hdp hun (fun r h₀' h' tk' news' x1 x2 x3 x4 x5 => by
    obtain ⟨n', y1, y2⟩ := hp r news' x1
    exact hret r h₀' h' tk' n' y1 x2 x3 x4 fun p q => x5 p (y2 p q)) hesc
theorem triples_int : ∀ {l : List Value}, TriplesOk l → ∀ {qual : Str} {t : Tok}, l[1]? ≠ some (.str qual t)
  | [], _, _, _ => fun e => nomatch e
  | .int a t :: .int b u :: x :: r, _, _, _ => fun e => nomatch e
theorem recin_drop {qual : Str} {c' P : Addr} {ps : Array Value} {A B : List (Addr × Obj)} (ok : TriplesOk ps.toList) (r : RecIn qual c' (A ++ (P, tabObj ps) :: B)) : RecIn qual c' (A ++ B) := by
  obtain ⟨oc, vs, t, hm, hd, hv⟩ := r
  rcases List.mem_append.mp hm with h | h
  · exact ⟨oc, vs, t, List.mem_append_left _ h, hd, hv⟩
  · rcases List.mem_cons.mp h with h | h
    · injection h with _ e
      subst e
      have e2 : ps = vs := by injection hd
      subst e2
      exact absurd (by rw [Array.getElem?_toList]; exact hv) (triples_int ok (qual := qual) (t := t))
    · exact ⟨oc, vs, t, List.mem_append_right _ h, hd, hv⟩
theorem tab_drop {qual : Str} {P : Addr} {ps qs : Array Value} {A B : List (Addr × Obj)} (ok : TriplesOk ps.toList) (r : TabGood qual qs (A ++ (P, tabObj ps) :: B)) : TabGood qual qs (A ++ B) :=
  ⟨r.1, fun pos v e => by
    obtain ⟨c', h, q⟩ := r.2 pos v e
    exact ⟨c', h, recin_drop ok q⟩⟩
end
section
variable {w : World} {p : Program} {loose : List Str} {mean : ExcName → Option Value} {mg mb : Str → Option Value} {base : Heap} {news : List (Addr × Obj)}
abbrev St (sa : Addr) (so : Obj) (p1 p2 p3 p4 : Array Value) (T : List (Addr × Obj)) : List (Addr × Obj) := (sa, so) :: (340, tabObj p1) :: (347, tabObj p2) :: (359, tabObj p3) :: (366, tabObj p4) :: T
def Good (T : List (Addr × Obj)) (p1 p2 p3 p4 : Array Value) : Prop :=
  TabGood (qualL (Str.ofString "_law_kinds_right")) p1 T ∧ TabGood (qualL (Str.ofString "_law_tags_right")) p2 T ∧ TabGood (qualL (Str.ofString "_law_most_right")) p3 T ∧ TabGood (qualL (Str.ofString "_law_greatest_right")) p4 T ∧ ∀ p ∈ T, p.1 ≠ 340 ∧ p.1 ≠ 347 ∧ p.1 ≠ 359 ∧ p.1 ≠ 366
inductive After4 (sa : Addr) (T : List (Addr × Obj)) (r : Value) (n : List (Addr × Obj)) : Prop
  | mk (so p1 p2 p3 p4 ex) (f1 : r = .bool true) (f2 : Src so) (f3 : Good (ex ++ T) p1 p2 p3 p4) (f4 : (∀ q ∈ ex, sa < q.1)) (f5 : n = St sa so p1 p2 p3 p4 (ex ++ T))
theorem ne_cons {a : Addr} {x : Addr × Obj} {l : List (Addr × Obj)} (h : x.1 ≠ a) (t : ∀ p ∈ l, p.1 ≠ a) : ∀ p ∈ x :: l, p.1 ≠ a := List.forall_mem_cons.mpr ⟨h, t⟩
theorem kinds_st (XB : (Lw.head.heap_1 w.params).In base) (TB : Top p loose mean mg mb base) (CH : CodeHd base 344 340) (sa : Addr) (so : Obj) (p1 p2 p3 p4 : Array Value) (T : List (Addr × Obj)) (hs : Src so) (G : Good T p1 p2 p3 p4) (hT : ∀ p ∈ T, p.1 ≠ sa) (hsa : @LT.lt Nat _ 373 sa) :
    ConT w base 300 3000 345 [.ref sa] (St sa so p1 p2 p3 p4 T) (After4 sa T) (fun _ => False) := by
  have hs1 : @LT.lt Nat _ 340 sa := Nat.lt_trans (by decide) hsa
  refine conT_adj (l := (sa, so) :: (340, tabObj p1) :: (347, tabObj p2) :: (359, tabObj p3) :: (366, tabObj p4) :: T) (kinds_con XB TB CH sa so p1 hs ((G.1).mono fun p hp => .tail _ (.tail _ (.tail _ hp))) (ne_cons (Nat.ne_of_lt (Nat.lt_trans (show @LT.lt Nat _ 347 373 by decide) hsa)) (ne_cons (Nat.ne_of_lt (Nat.lt_trans (show @LT.lt Nat _ 359 373 by decide) hsa)) (ne_cons (Nat.ne_of_lt (Nat.lt_trans (show @LT.lt Nat _ 366 373 by decide) hsa)) hT))) (ne_cons (show @Ne Nat 347 340 by decide) (ne_cons (show @Ne Nat 359 340 by decide) (ne_cons (show @Ne Nat 366 340 by decide) (fun p hp => (G.2.2.2.2 p hp).1)))) hs1) ?sub1 (fun r n q => ?_)
  case sub1 =>
    intro q hq
    simp only [List.mem_cons] at hq ⊢
    rcases hq with h | h | h | h | h | h <;> simp [h]
  obtain ⟨so', ps', ex, rfl, hs', TG', rfl, hL⟩ := q
  refine ⟨_, ⟨so', ps', p2, p3, p4, ex, rfl, hs', ⟨(tab_drop (G.2.2.2.1).1 (tab_drop (G.2.2.1).1 (tab_drop (G.2.1).1 TG'))), (G.2.1).mono fun p hp => List.mem_append_right _ hp, (G.2.2.1).mono fun p hp => List.mem_append_right _ hp, (G.2.2.2.1).mono fun p hp => List.mem_append_right _ hp, fun q hq => ?_⟩, fun q hq => (hL q hq).1, rfl⟩, ?_⟩
  · rcases List.mem_append.mp hq with h | h
    · exact ⟨Nat.ne_of_gt (Nat.lt_trans hs1 (hL q h).1), Nat.ne_of_gt ((hL q h).2 (347, _) (.head _)), Nat.ne_of_gt ((hL q h).2 (359, _) (.tail _ (.head _))), Nat.ne_of_gt ((hL q h).2 (366, _) (.tail _ (.tail _ (.head _))))⟩
    · exact G.2.2.2.2 q h
  · intro q hq
    simp only [List.mem_cons, List.mem_append] at hq ⊢
    rcases hq with h | h | h | h | h | h | h <;> simp [h]
theorem tags_st (XB : (Lw.head.heap_1 w.params).In base) (TB : Top p loose mean mg mb base) (CH : CodeHd base 351 347) (sa : Addr) (so : Obj) (p1 p2 p3 p4 : Array Value) (T : List (Addr × Obj)) (hs : Src so) (G : Good T p1 p2 p3 p4) (hT : ∀ p ∈ T, p.1 ≠ sa) (hsa : @LT.lt Nat _ 373 sa) :
    ConT w base 300 3000 352 [.ref sa] (St sa so p1 p2 p3 p4 T) (After4 sa T) (fun _ => False) := by
  have hs2 : @LT.lt Nat _ 347 sa := Nat.lt_trans (by decide) hsa
  refine conT_adj (l := (sa, so) :: (347, tabObj p2) :: (340, tabObj p1) :: (359, tabObj p3) :: (366, tabObj p4) :: T) (tags_con XB TB CH sa so p2 hs ((G.2.1).mono fun p hp => .tail _ (.tail _ (.tail _ hp))) (ne_cons (Nat.ne_of_lt (Nat.lt_trans (show @LT.lt Nat _ 340 373 by decide) hsa)) (ne_cons (Nat.ne_of_lt (Nat.lt_trans (show @LT.lt Nat _ 359 373 by decide) hsa)) (ne_cons (Nat.ne_of_lt (Nat.lt_trans (show @LT.lt Nat _ 366 373 by decide) hsa)) hT))) (ne_cons (show @Ne Nat 340 347 by decide) (ne_cons (show @Ne Nat 359 347 by decide) (ne_cons (show @Ne Nat 366 347 by decide) (fun p hp => (G.2.2.2.2 p hp).2.1)))) hs2) ?sub2 (fun r n q => ?_)
  case sub2 =>
    intro q hq
    simp only [List.mem_cons] at hq ⊢
    rcases hq with h | h | h | h | h | h <;> simp [h]
  obtain ⟨so', ps', ex, rfl, hs', TG', rfl, hL⟩ := q
  refine ⟨_, ⟨so', p1, ps', p3, p4, ex, rfl, hs', ⟨(G.1).mono fun p hp => List.mem_append_right _ hp, (tab_drop (G.2.2.2.1).1 (tab_drop (G.2.2.1).1 (tab_drop (G.1).1 TG'))), (G.2.2.1).mono fun p hp => List.mem_append_right _ hp, (G.2.2.2.1).mono fun p hp => List.mem_append_right _ hp, fun q hq => ?_⟩, fun q hq => (hL q hq).1, rfl⟩, ?_⟩
  · rcases List.mem_append.mp hq with h | h
    · exact ⟨Nat.ne_of_gt ((hL q h).2 (340, _) (.head _)), Nat.ne_of_gt (Nat.lt_trans hs2 (hL q h).1), Nat.ne_of_gt ((hL q h).2 (359, _) (.tail _ (.head _))), Nat.ne_of_gt ((hL q h).2 (366, _) (.tail _ (.tail _ (.head _))))⟩
    · exact G.2.2.2.2 q h
  · intro q hq
    simp only [List.mem_cons, List.mem_append] at hq ⊢
    rcases hq with h | h | h | h | h | h | h <;> simp [h]
theorem most_st (XB : (Lw.head.heap_1 w.params).In base) (TB : Top p loose mean mg mb base) (CH : CodeHd base 363 359) (sa : Addr) (so : Obj) (p1 p2 p3 p4 : Array Value) (T : List (Addr × Obj)) (hs : Src so) (G : Good T p1 p2 p3 p4) (hT : ∀ p ∈ T, p.1 ≠ sa) (hsa : @LT.lt Nat _ 373 sa) :
    ConT w base 400 4000 364 [.ref sa] (St sa so p1 p2 p3 p4 T) (After4 sa T) (fun _ => False) := by
  have hs3 : @LT.lt Nat _ 359 sa := Nat.lt_trans (by decide) hsa
  refine conT_adj (l := (sa, so) :: (359, tabObj p3) :: (340, tabObj p1) :: (347, tabObj p2) :: (366, tabObj p4) :: T) (most_con XB TB CH sa so p3 hs ((G.2.2.1).mono fun p hp => .tail _ (.tail _ (.tail _ hp))) (ne_cons (Nat.ne_of_lt (Nat.lt_trans (show @LT.lt Nat _ 340 373 by decide) hsa)) (ne_cons (Nat.ne_of_lt (Nat.lt_trans (show @LT.lt Nat _ 347 373 by decide) hsa)) (ne_cons (Nat.ne_of_lt (Nat.lt_trans (show @LT.lt Nat _ 366 373 by decide) hsa)) hT))) (ne_cons (show @Ne Nat 340 359 by decide) (ne_cons (show @Ne Nat 347 359 by decide) (ne_cons (show @Ne Nat 366 359 by decide) (fun p hp => (G.2.2.2.2 p hp).2.2.1)))) hs3) ?sub3 (fun r n q => ?_)
  case sub3 =>
    intro q hq
    simp only [List.mem_cons] at hq ⊢
    rcases hq with h | h | h | h | h | h <;> simp [h]
  obtain ⟨so', ps', ex, rfl, hs', TG', rfl, hL⟩ := q
  refine ⟨_, ⟨so', p1, p2, ps', p4, ex, rfl, hs', ⟨(G.1).mono fun p hp => List.mem_append_right _ hp, (G.2.1).mono fun p hp => List.mem_append_right _ hp, (tab_drop (G.2.2.2.1).1 (tab_drop (G.2.1).1 (tab_drop (G.1).1 TG'))), (G.2.2.2.1).mono fun p hp => List.mem_append_right _ hp, fun q hq => ?_⟩, fun q hq => (hL q hq).1, rfl⟩, ?_⟩
  · rcases List.mem_append.mp hq with h | h
    · exact ⟨Nat.ne_of_gt ((hL q h).2 (340, _) (.head _)), Nat.ne_of_gt ((hL q h).2 (347, _) (.tail _ (.head _))), Nat.ne_of_gt (Nat.lt_trans hs3 (hL q h).1), Nat.ne_of_gt ((hL q h).2 (366, _) (.tail _ (.tail _ (.head _))))⟩
    · exact G.2.2.2.2 q h
  · intro q hq
    simp only [List.mem_cons, List.mem_append] at hq ⊢
    rcases hq with h | h | h | h | h | h | h <;> simp [h]
theorem greatest_st (XB : (Lw.head.heap_1 w.params).In base) (TB : Top p loose mean mg mb base) (CH : CodeHd base 370 366) (sa : Addr) (so : Obj) (p1 p2 p3 p4 : Array Value) (T : List (Addr × Obj)) (hs : Src so) (G : Good T p1 p2 p3 p4) (hT : ∀ p ∈ T, p.1 ≠ sa) (hsa : @LT.lt Nat _ 373 sa) :
    ConT w base 400 4000 371 [.ref sa] (St sa so p1 p2 p3 p4 T) (After4 sa T) (fun _ => False) := by
  have hs4 : @LT.lt Nat _ 366 sa := Nat.lt_trans (by decide) hsa
  refine conT_adj (l := (sa, so) :: (366, tabObj p4) :: (340, tabObj p1) :: (347, tabObj p2) :: (359, tabObj p3) :: T) (greatest_con XB TB CH sa so p4 hs ((G.2.2.2.1).mono fun p hp => .tail _ (.tail _ (.tail _ hp))) (ne_cons (Nat.ne_of_lt (Nat.lt_trans (show @LT.lt Nat _ 340 373 by decide) hsa)) (ne_cons (Nat.ne_of_lt (Nat.lt_trans (show @LT.lt Nat _ 347 373 by decide) hsa)) (ne_cons (Nat.ne_of_lt (Nat.lt_trans (show @LT.lt Nat _ 359 373 by decide) hsa)) hT))) (ne_cons (show @Ne Nat 340 366 by decide) (ne_cons (show @Ne Nat 347 366 by decide) (ne_cons (show @Ne Nat 359 366 by decide) (fun p hp => (G.2.2.2.2 p hp).2.2.2)))) hs4) ?sub4 (fun r n q => ?_)
  case sub4 =>
    intro q hq
    simp only [List.mem_cons] at hq ⊢
    rcases hq with h | h | h | h | h | h <;> simp [h]
  obtain ⟨so', ps', ex, rfl, hs', TG', rfl, hL⟩ := q
  refine ⟨_, ⟨so', p1, p2, p3, ps', ex, rfl, hs', ⟨(G.1).mono fun p hp => List.mem_append_right _ hp, (G.2.1).mono fun p hp => List.mem_append_right _ hp, (G.2.2.1).mono fun p hp => List.mem_append_right _ hp, (tab_drop (G.2.2.1).1 (tab_drop (G.2.1).1 (tab_drop (G.1).1 TG'))), fun q hq => ?_⟩, fun q hq => (hL q hq).1, rfl⟩, ?_⟩
  · rcases List.mem_append.mp hq with h | h
    · exact ⟨Nat.ne_of_gt ((hL q h).2 (340, _) (.head _)), Nat.ne_of_gt ((hL q h).2 (347, _) (.tail _ (.head _))), Nat.ne_of_gt ((hL q h).2 (359, _) (.tail _ (.tail _ (.head _)))), Nat.ne_of_gt (Nat.lt_trans hs4 (hL q h).1)⟩
    · exact G.2.2.2.2 q h
  · intro q hq
    simp only [List.mem_cons, List.mem_append] at hq ⊢
    rcases hq with h | h | h | h | h | h | h <;> simp [h]
end
section
variable {w : World} {p : Program} {loose : List Str} {mean : ExcName → Option Value} {mg mb : Str → Option Value} {base : Heap} {news : List (Addr × Obj)}
theorem kts_nil {A₀ : Around} {base gk : Heap} (_ : Below A₀ base [] gk) : KtsDicts (frs []) gk := fun b hb => nomatch hb
theorem all4 {g h : Heap} {L : Addr} {l : List (Addr × Obj)} (N : News g L h l) : True := trivial
theorem recin_drop2 {qual : Str} {c' : Addr} {x : Addr × Obj} {A B : List (Addr × Obj)} (hx : ∀ vs, x.2.data = .fields vs → ∀ t, vs[1]? ≠ some (.str qual t)) (r : RecIn qual c' (A ++ x :: B)) : RecIn qual c' (A ++ B) := by
  obtain ⟨oc, vs, t, hm, hd, hv⟩ := r
  rcases List.mem_append.mp hm with h | h
  · exact ⟨oc, vs, t, List.mem_append_left _ h, hd, hv⟩
  · rcases List.mem_cons.mp h with h | h
    · subst h
      exact absurd hv (hx vs hd t)
    · exact ⟨oc, vs, t, List.mem_append_right _ h, hd, hv⟩
theorem tab_drop2 {qual : Str} {x : Addr × Obj} {qs : Array Value} {A B : List (Addr × Obj)} (hx : ∀ vs, x.2.data = .fields vs → ∀ t, vs[1]? ≠ some (.str qual t)) (r : TabGood qual qs (A ++ x :: B)) : TabGood qual qs (A ++ B) :=
  ⟨r.1, fun pos v e => by
    obtain ⟨c', h, q⟩ := r.2 pos v e
    exact ⟨c', h, recin_drop2 hx q⟩⟩
theorem itR_no (x left : Int) {qual : Str} : ∀ vs, (itR x left).data = .fields vs → ∀ t, vs[1]? ≠ some (.str qual t) := fun vs h t e => by
  have e2 : #[rawInt x, rawInt left, rawInt 1] = vs := by injection h
  subst e2
  exact nomatch (show some (rawInt left) = some (.str qual t) from e)
theorem good_drop {A B : List (Addr × Obj)} {I : Addr} {x left : Int} {p1 p2 p3 p4 : Array Value} (G : Good (A ++ (I, itR x left) :: B) p1 p2 p3 p4) : Good (A ++ B) p1 p2 p3 p4 :=
  ⟨tab_drop2 (itR_no x left) G.1, tab_drop2 (itR_no x left) G.2.1, tab_drop2 (itR_no x left) G.2.2.1, tab_drop2 (itR_no x left) G.2.2.2.1, fun p hp => G.2.2.2.2 p ((List.mem_append.mp hp).elim (List.mem_append_left _) fun h => List.mem_append_right _ (.tail _ h))⟩
theorem good_in {T : List (Addr × Obj)} {I : Addr} {x left : Int} {p1 p2 p3 p4 : Array Value} (G : Good T p1 p2 p3 p4) (h : I ≠ 340 ∧ I ≠ 347 ∧ I ≠ 359 ∧ I ≠ 366) : Good ((I, itR x left) :: T) p1 p2 p3 p4 :=
  ⟨G.1.mono fun p q => .tail _ q, G.2.1.mono fun p q => .tail _ q, G.2.2.1.mono fun p q => .tail _ q, G.2.2.2.1.mono fun p q => .tail _ q, List.forall_mem_cons.mpr ⟨h, G.2.2.2.2⟩⟩
theorem range_ok {b : Int} {n : Nat} (h : b = n) (hn : n ≤ 5) : Builtin.Range.small 0 b 1 = true ∧ Builtin.Range.rangeSize 0 b 1 = (n : Int) := by
  subst h
  match n, hn with
  | 0, _ => decide
  | 1, _ => decide
  | 2, _ => decide
  | 3, _ => decide
  | 4, _ => decide
  | 5, _ => decide
theorem turn_in {g h : Heap} {L : Addr} {s x a b c d : Addr × Obj} {T : List (Addr × Obj)} (N : News g L h (s :: x :: a :: b :: c :: d :: T)) : News g L h (s :: a :: b :: c :: d :: x :: T) := news_sub N (by
  intro q hq
  simp only [List.mem_cons] at hq ⊢
  rcases hq with h | h | h | h | h | h | h <;> simp [h])
theorem good_nil {p0 : Array Value} : Good [(373, tabObj p0)] #[] #[] #[] #[] :=
  ⟨.nil, .nil, .nil, .nil, List.forall_mem_cons.mpr ⟨⟨by show @Ne Nat 373 340; decide, by show @Ne Nat 373 347; decide, by show @Ne Nat 373 359; decide, by show @Ne Nat 373 366; decide⟩, List.forall_mem_nil _⟩⟩
end
section
variable {w : World} {p : Program} {loose : List Str} {mean : ExcName → Option Value} {mg mb : Str → Option Value} {base : Heap} {news : List (Addr × Obj)}
theorem tab_off {qual : Str} {qs : Array Value} {T T2 : List (Addr × Obj)} {I : Addr} {x left : Int} (u : ∀ o, (I, o) ∈ T → o = itR x left) (s : ∀ p ∈ T, p.1 ≠ I → p ∈ T2) (r : TabGood qual qs T) : TabGood qual qs T2 :=
  ⟨r.1, fun pos v e => by
    obtain ⟨c', h, oc, vs, t, hm, hd, hv⟩ := r.2 pos v e
    refine ⟨c', h, oc, vs, t, s _ hm (fun q => ?_), hd, hv⟩
    have q2 : c' = I := q
    subst q2
    have e2 := u _ hm
    subst e2
    exact itR_no x left vs hd t hv⟩
abbrev Tabs (p0 p1 p2 p3 p4 : Array Value) (T : List (Addr × Obj)) : List (Addr × Obj) := (340, tabObj p1) :: (347, tabObj p2) :: (359, tabObj p3) :: (366, tabObj p4) :: (373, tabObj p0) :: T
theorem turn_out {g h : Heap} {L sa I : Addr} {so : Obj} {p0 p1 p2 p3 p4 : Array Value} {T : List (Addr × Obj)} {x left : Int} (N : News g L h (St sa so p1 p2 p3 p4 T)) (G : Good T p1 p2 p3 p4) (hI : (I, itR x left) ∈ T) (h0 : (373, tabObj p0) ∈ T) (hb : @LT.lt Nat _ 373 I) :
    ∃ T2, Good ((373, tabObj p0) :: T2) p1 p2 p3 p4 ∧ News g L h ((I, itR x left) :: Tabs p0 p1 p2 p3 p4 T2) ∧ ∀ p ∈ Tabs p0 p1 p2 p3 p4 T2, p.1 ≠ I := by
  have u : ∀ o, (I, o) ∈ T → o = itR x left := fun o ho => by
    have a := (N (I, o) (by simp [ho])).1
    have b := (N (I, itR x left) (by simp [hI])).1
    exact Option.some.inj (a.symm.trans b)
  have z0 : (373, tabObj p0).1 ≠ I := Nat.ne_of_lt hb
  refine ⟨T.filter (fun p => decide (p.1 ≠ I)), ?_, ?_, ?_⟩
  · have s : ∀ p ∈ T, p.1 ≠ I → p ∈ (373, tabObj p0) :: T.filter (fun p => decide (p.1 ≠ I)) := fun p hp hq => .tail _ (List.mem_filter.mpr ⟨hp, decide_eq_true hq⟩)
    exact ⟨tab_off u s G.1, tab_off u s G.2.1, tab_off u s G.2.2.1, tab_off u s G.2.2.2.1, List.forall_mem_cons.mpr ⟨G.2.2.2.2 _ h0, fun p hp => G.2.2.2.2 p (List.mem_filter.mp hp).1⟩⟩
  · refine news_sub N fun q hq => ?_
    simp only [List.mem_cons] at hq ⊢
    rcases hq with h | h | h | h | h | h | h
    · subst h; simp [hI]
    · simp [h]
    · simp [h]
    · simp [h]
    · simp [h]
    · subst h; simp [h0]
    · simp [(List.mem_filter.mp h).1]
  · refine List.forall_mem_cons.mpr ⟨Nat.ne_of_lt (Nat.lt_trans (show @LT.lt Nat _ 340 373 by decide) hb), List.forall_mem_cons.mpr ⟨Nat.ne_of_lt (Nat.lt_trans (show @LT.lt Nat _ 347 373 by decide) hb), List.forall_mem_cons.mpr ⟨Nat.ne_of_lt (Nat.lt_trans (show @LT.lt Nat _ 359 373 by decide) hb), List.forall_mem_cons.mpr ⟨Nat.ne_of_lt (Nat.lt_trans (show @LT.lt Nat _ 366 373 by decide) hb), List.forall_mem_cons.mpr ⟨z0, fun p hp => of_decide_eq_true (List.mem_filter.mp hp).2⟩⟩⟩⟩⟩
theorem turn_ne {sa : Addr} {x a b c d : Addr × Obj} {T : List (Addr × Obj)} (h : ∀ p ∈ x :: a :: b :: c :: d :: T, p.1 < sa) : ∀ p ∈ x :: T, p.1 ≠ sa := fun p hp => by
  refine Nat.ne_of_lt (h p ?_)
  simp only [List.mem_cons] at hp ⊢
  rcases hp with h | h <;> simp [h]
end
local macro_rules | `(tactic| walk_at "pyIter ref") => `(tactic| (refine stop_ ?_))
section
variable {w : World} {p : Program} {loose : List Str} {mean : ExcName → Option Value} {mg mb : Str → Option Value} {base : Heap} {news : List (Addr × Obj)}
theorem range_ind {prog : Program} {A : Around} {E : Value → Shared → Prop} {s : Shared} {env : Env} {h₀ : Heap} {x : Str} {body : List Stmt} {Q : Flow → Shared → Prop} {I : Addr} {a : Int} {n : Nat} (P : Nat → (Str → Option Value) → List (Addr × Obj) → Prop)
    (hz : ∀ m news, P n m news → ∀ h tk, Fr h₀ env.locals h m → News h₀ env.locals h news → Q .next { s with heap := h, toks := tk })
    (hs : ∀ i m news, i < n → P i m news → ∀ t h tk, Fr h₀ env.locals h (fun y => if y = x then some (.int (a + (i : Int)) t) else m y) → News h₀ env.locals h ((I, itR (a + ((i + 1 : Nat) : Int)) ((n : Int) - ((i + 1 : Nat) : Int))) :: news) →
      wpAny (model prog w) A (execs body env) (UnrPost h₀ env.locals { s with heap := h, toks := tk } I (itR (a + ((i + 1 : Nat) : Int)) ((n : Int) - ((i + 1 : Nat) : Int))) (P (i + 1)) Q) E { s with heap := h, toks := tk }) :
    ∀ k i m news, i + k = n → P i m news → RangeRest prog w A E h₀ env x body Q s I a n k i m news := by
  intro k
  induction k with
  | zero => exact fun i m news e p => hz m news (by rw [Nat.add_zero] at e; rw [← e]; exact p)
  | succ k ih => exact fun i m news e p t h tk F N => wpAny_mono (hs i m news (by first | decide | omega) p t h tk F N) (fun f s₂ y => unrPost_mono (fun m' n' q => ih (i + 1) m' n' (by first | decide | omega) q) y) fun _ _ y => y
theorem pool_conI (XB : (Lw.head.heap_1 w.params).In base) (TB : Top p loose mean mg mb base) (la : Addr) (vs : List Value) (ns : List Int) (tk : Tok) (hl : base.IsList la vs.toArray) (hi : IntsAre vs ns) (hn : ns.length ≤ 100) : ∀ i : Nat, i < 2 →
    Con w base 40 400 317 [.ref la, .int (0 + (i : Int)) tk] news (fun r news' => ∃ sa so, r = .ref sa ∧ Src so ∧ news' = (sa, so) :: news ∧ ∀ p ∈ news, p.1 < sa) (fun _ => False)
  | 0, _ => pool_con0 XB TB la vs ns tk hl hi hn
  | 1, _ => pool_con1 XB TB la vs ns tk hl hi hn
inductive TurnP (n1 n2 : Str) (m0 : Str → Option Value) (p0 : Array Value) (m : Str → Option Value) (news : List (Addr × Obj)) : Prop
  | mk (oa ob p1 p2 p3 p4 T) (f1 : m = up2 n1 n2 m0 oa ob) (f2 : news = Tabs p0 p1 p2 p3 p4 T) (f3 : Good ((373, tabObj p0) :: T) p1 p2 p3 p4)
theorem TurnP.first {n1 n2 : Str} {m0 : Str → Option Value} {p0 : Array Value} : TurnP n1 n2 m0 p0 m0 [(340, tabObj #[]), (347, tabObj #[]), (359, tabObj #[]), (366, tabObj #[]), (373, tabObj p0)] := ⟨_, _, _, _, _, _, [], up2_first n1 n2 m0, rfl, good_nil⟩
set_option maxHeartbeats 2000000 in
theorem cwt : PySem.Challenge.rw_pf0385_01.Holds := by
  w_on
  refine Lw.head ?_
  w_strict (k_go0; (all_goals try k_fold))
  rename_i w s0 s1 mg mb G Y fa o pm doc ho hg X V T B TE TW hcd ns hs hlay0 hL1 hr1 hl2 w5 w4 la vs w1 hL ra w1q r0 hI hr hc1 hc2 hD h1 tk1 cz rt X0 X' T' B' F' c4 c3 c2 c1 N' l0
  have D' := kts_nil B'
  clear X0 hD hr r0 w1q ra hL hs hlay0 hL1 hr1 hl2 G Y ho hT8 X V T B TE TW hT9 hcd hc2
  generalize ghostOf s1.heap [(370, 366), (363, 359), (351, 347), (344, 340), (377, 373)] = H at *
  generalize s1.heap.objs.size = L' at *
  (try dsimp only at F' rt c4 c3 c2 c1 codeHd)
  (try dsimp only)
  have XB := X'
  have CH := codeHd
  have TB := T'
  have h366 : @LT.lt Nat _ 366 L' := l0.1
  have h359 : @LT.lt Nat _ 359 L' := l0.2.1
  have h347 : @LT.lt Nat _ 347 L' := l0.2.2.1
  have h340 : @LT.lt Nat _ 340 L' := l0.2.2.2.1
  have h373 : @LT.lt Nat _ 373 L' := l0.2.2.2.2
  refine opq (fun Q1 E1 hQ1 hE1 => ?_)
  (all_goals (repeat ((with_reducible refine OQ.use (by assumption) ?_); (try dsimp only))))
  w_strict (k_steps)
  (all_goals (repeat ((with_reducible refine OQ.use (by assumption) ?_); (try dsimp only))))
  refine Stop.mk ?_
  refine opk (fun K9 hK9 => ?_)
  k_dflt (refine' con_step (frame_con XB TB _ _ _ _ _ _ _ _) (by assumption) (by k_asm) (news_dup1 (by k_asm) (by k_mem)) (by assumption) rfl rfl rfl ?hd213 ?hu213 ?hesc213 ?hret213)
  case hd213 => first | exact Nat.le_of_ble_eq_true rfl | (dsimp only; first | exact dstep1 hdp rfl | exact dstep hdp rfl | omega)
  case hu213 => first | exact Nat.le_of_ble_eq_true rfl | (dsimp only; first | exact dstep hun rfl | exact dstep1 hun rfl | omega)
  case hesc213 => exact fun _ _ _ _ q _ => q.elim
  intro r9 h' tk' news' F' N' P9
  (try k_sweep)
  (try dsimp only)
  obtain ⟨z, dx, t1, t2, t3, t4, t5, tb', rfl, rfl, lo1, lo2, lo3⟩ := P9
  (all_goals (repeat ((with_reducible refine OQ.use (by assumption) ?_); (try dsimp only))))
  w_strict (k_steps)
  (all_goals (repeat ((with_reducible refine OQ.use (by assumption) ?_); (try dsimp only))))
  refine Stop.mk ?_
  refine opk (fun K9 hK9 => ?_)
  k_dflt (refine' con_step (pack_ok (Fi := ?Fi9214) (x := 5) (y := 6) (ps := []) XB TB false (List.replicate 46 0) ⟨_, rfl⟩ (by assumption) (List.forall_mem_nil _) (by decide) (by decide) (by decide) (by decide) (by decide) (by decide)) (by assumption) (by k_asm) (by k_asm) (by assumption) rfl rfl rfl ?hd214 ?hu214 ?hesc214 ?hret214)
  case Fi9214 => exact ⟨_, _, [], _, _, _, _, _, _, _, _, _, by k_mem, by k_mem, by k_mem, .nil⟩
  case hd214 => first | exact Nat.le_of_ble_eq_true rfl | (dsimp only; first | exact dstep1 hdp rfl | exact dstep hdp rfl | omega)
  case hu214 => first | exact Nat.le_of_ble_eq_true rfl | (dsimp only; first | exact dstep hun rfl | exact dstep1 hun rfl | omega)
  case hesc214 => exact fun _ _ _ _ q _ => q.elim
  intro r9 h' tk' news' F' N' P9
  (try k_sweep)
  (try dsimp only)
  obtain ⟨rfl, wb, wt, rfl, hwb⟩ := P9
  have N2 : News H L' _ [(L' + 1, cz), (366, tabObj #[]), (359, tabObj #[]), (347, tabObj #[]), (340, tabObj #[]), (373, tabObj #[])] := news_sub N' (by (iterate 6 (refine List.forall_mem_cons.mpr ⟨by k_mem, ?_⟩)); exact List.forall_mem_nil _)
  clear N' lo1 lo2 lo3
  have hwl : ((packB 5 6 (tagsB []) (kindB false (List.replicate 46 (0 : Int)).length) (List.replicate 46 0)).length : Int) = 64 := by
    rw [packB_len]; rfl
  obtain ⟨ws, hws⟩ : ∃ ws, ws = packB 5 6 (tagsB []) (kindB false (List.replicate 46 (0 : Int)).length) (List.replicate 46 0) := ⟨_, rfl⟩
  rw [← hws] at hwb hwl
  (all_goals (repeat ((with_reducible refine OQ.use (by assumption) ?_); (try dsimp only))))
  w_strict (k_steps)
  (all_goals (repeat ((with_reducible refine OQ.use (by assumption) ?_); (try dsimp only))))
  refine Stop.mk ?_
  refine opk (fun K9 hK9 => ?_)
  k_dflt (refine' lam_any2 (P := 373) (by k_asm) (news_pull (by k_asm) (by repeat (first | exact Pull.head _ | apply Pull.tail))) (by assumption) (CodeHd.keeps CH (Below.stays (by assumption))) rfl ?off215 (SplitA.toS (by repeat (first | exact SplitA.nil | apply SplitA.cons | apply SplitA.app))) (TabGood.nil : TabGood _ #[] ([] : List (Addr × Obj))) rfl rfl ?hret215)
  case off215 => ((repeat (first | (with_reducible assumption) | exact List.forall_mem_nil _ | (with_reducible refine offc ?_ ?_; k_ne) | (with_reducible refine List.forall_mem_cons.mpr ⟨?_, ?_⟩; k_ne))))
  intro f1 c1 pm ctv h' tk' ps ex1 F' N' TG1 R1 E1 G1
  (try k_sweep)
  dsimp only [AllLt] at G1
  simp only [List.cons_append, List.nil_append, List.append_nil, List.append_assoc] at N' R1
  (try dsimp only)
  (all_goals (repeat ((with_reducible refine OQ.use (by assumption) ?_); (try dsimp only))))
  w_strict (k_steps)
  (all_goals (repeat ((with_reducible refine OQ.use (by assumption) ?_); (try dsimp only))))
  refine Stop.mk ?_
  refine opk (fun K9 hK9 => ?_)
  k_dflt (refine' conT_top (heardK_form True (fun _ => False) (dn := 140) (un' := 2000) XB TB ?pull216 ?CL1) (by assumption) (by k_asm) (by k_asm) (by assumption) rfl rfl rfl ?hd216 ?hu216 ?hesc216 ?CR1)
  case pull216 => k_mem
  case hd216 => first | exact Nat.le_of_ble_eq_true rfl | (dsimp only; first | exact dstep1 hdp rfl | exact dstep hdp rfl | omega)
  case hu216 => first | exact Nat.le_of_ble_eq_true rfl | (dsimp only; first | exact dstep hun rfl | exact dstep1 hun rfl | omega)
  case hesc216 => exact fun _ _ _ _ q _ => q.elim
  case CL1 =>
    refine' con_lamQ XB TB (by k_mem) (R1.mono (fun q hq => .tail _ (.tail _ hq))) rfl (locs rfl) (by decide) ?_ (by decide) rfl rfl rfl
    intro dp un gd l sh9 sg9 sd9 sk9 so9 g L' h' Q1 E1 hdp hun AN F' N' l1 B' D' X' T' TT hQ1 hE1
    (try dsimp only)
    (try k_fold)
    (all_goals (repeat ((with_reducible refine OQ.use (by assumption) ?_); (try dsimp only))))
    w_strict (k_steps)
    (all_goals (repeat ((with_reducible refine OQ.use (by assumption) ?_); (try dsimp only))))
    refine Stop.mk ?_
    refine opk (fun K9 hK9 => ?_)
    k_dflt (refine' con_step (unpack_inL XB TB 5 6 [] false (List.replicate 46 0) wb _ _ _ _ (ubinds2 _ _ _ _) (hwb.trans hws) (by decide) (by decide) (by decide)) (by assumption) (by k_asm) (by k_asm) (by assumption) rfl rfl rfl ?hd218 ?hu218 ?hesc218 ?hret218)
    case hd218 => first | exact Nat.le_of_ble_eq_true rfl | (dsimp only; first | exact dstep1 hdp rfl | exact dstep hdp rfl | omega)
    case hu218 => first | exact Nat.le_of_ble_eq_true rfl | (dsimp only; first | exact dstep hun rfl | exact dstep1 hun rfl | omega)
    case hesc218 =>
      refine con_pass2 (by first | exact fun _ _ x => x | (rename EQ9 _ _ => hE9; exact EQ9.pass hE9)) (by assumption) (by k_asm) (by k_asm) (by assumption) rfl ?sub218 rfl rfl ?pe218
      case sub218 => intro _ hq; repeat (first | exact hq | refine List.mem_cons_of_mem _ ?_)
      case pe218 => first | exact fun _ x => x | exact fun _ x => ⟨trivial, x⟩
    intro r9 h' tk' news' F' N' P9
    (try k_sweep)
    (try dsimp only)
    exact P9.elim
  case CR1 =>
  intro r h' tk' news' F' N' P9
  obtain ⟨rfl, P9⟩ := P9
  (try dsimp only)
  obtain ⟨_, tk5, rfl⟩ : True ∧ ∃ tk, r = .str "form" tk := P9.resolve_left (fun q => q)
  (all_goals (repeat ((with_reducible refine OQ.use (by assumption) ?_); (try dsimp only))))
  w_strict (k_steps)
  (all_goals (repeat ((with_reducible refine OQ.use (by assumption) ?_); (try dsimp only))))
  rw [List.append_nil] at TG1
  have h1P : ∀ p ∈ ex1, p.1 ≠ 373 := fun q hq => Nat.ne_of_gt (E1 q hq).1.1
  refine Stop.mk ?_
  refine opk (fun K9 hK9 => ?_)
  k_dflt (refine' lam_any2 (P := 373) (by k_asm) (news_pull (by k_asm) (by repeat (first | exact Pull.head _ | apply Pull.tail))) (by assumption) (CodeHd.keeps CH (Below.stays (by assumption))) rfl ?off220 (SplitA.toS (by repeat (first | exact SplitA.nil | apply SplitA.cons | apply SplitA.app))) TG1 rfl rfl ?hret220)
  case off220 => ((repeat (first | (with_reducible assumption) | exact List.forall_mem_nil _ | (with_reducible refine offc ?_ ?_; k_ne) | (with_reducible refine List.forall_mem_cons.mpr ⟨?_, ?_⟩; k_ne))))
  intro f2 c2 pm ctv h' tk' ps ex2 F' N' TG2 R2 E2 G2
  (try k_sweep)
  dsimp only [AllLt] at G2
  simp only [List.cons_append, List.nil_append, List.append_nil, List.append_assoc] at N' R2
  (try dsimp only)
  (all_goals (repeat ((with_reducible refine OQ.use (by assumption) ?_); (try dsimp only))))
  w_strict (k_steps)
  (all_goals (repeat ((with_reducible refine OQ.use (by assumption) ?_); (try dsimp only))))
  refine Stop.mk ?_
  refine opk (fun K9 hK9 => ?_)
  k_dflt (refine' con_step (heard_okU (dn := 140) (un' := 2000) XB TB ?pull221 ?CL2) (by assumption) (by k_asm) (by k_asm) (by assumption) rfl rfl rfl ?hd221 ?hu221 ?hesc221 ?CR2)
  case pull221 => k_mem
  case hd221 => first | exact Nat.le_of_ble_eq_true rfl | (dsimp only; first | exact dstep1 hdp rfl | exact dstep hdp rfl | omega)
  case hu221 => first | exact Nat.le_of_ble_eq_true rfl | (dsimp only; first | exact dstep hun rfl | exact dstep1 hun rfl | omega)
  case hesc221 => exact fun _ _ _ _ q _ => q.elim
  case CL2 =>
    refine' con_lamQ XB TB (by k_mem) (R2.mono (fun q hq => .tail _ (.tail _ hq))) rfl (locs rfl) (by decide) ?_ (by decide) rfl rfl rfl
    intro dp un gd l sh9 sg9 sd9 sk9 so9 g L' h' Q1 E1 hdp hun AN F' N' l1 B' D' X' T' TT hQ1 hE1
    (try dsimp only)
    (try k_fold)
    (all_goals (repeat ((with_reducible refine OQ.use (by assumption) ?_); (try dsimp only))))
    w_strict (k_steps)
    (all_goals (repeat ((with_reducible refine OQ.use (by assumption) ?_); (try dsimp only))))
    refine Stop.mk ?_
    refine opk (fun K9 hK9 => ?_)
    k_dflt (refine' con_step (unpack_in XB TB 5 6 [] false (List.replicate 46 0) wb _ _ _ _ (ubinds2 _ _ _ _) (hwb.trans hws) (List.forall_mem_nil _) (by decide) (by decide) (by decide) (by decide) (by decide) (fun _ => by decide) (by decide) (by decide)) (by assumption) (by k_asm) (by k_asm) (by assumption) rfl rfl rfl ?hd223 ?hu223 ?hesc223 ?hret223)
    case hd223 => first | exact Nat.le_of_ble_eq_true rfl | (dsimp only; first | exact dstep1 hdp rfl | exact dstep hdp rfl | omega)
    case hu223 => first | exact Nat.le_of_ble_eq_true rfl | (dsimp only; first | exact dstep hun rfl | exact dstep1 hun rfl | omega)
    case hesc223 => exact fun _ _ _ _ q _ => q.elim
    intro r9 h' tk' news' F' N' P9
    (try k_sweep)
    (try dsimp only)
    obtain ⟨new, rfl, z2, kd2, pb2, rfl, Fu, hk2, hp2⟩ := P9
    (all_goals (repeat ((with_reducible refine OQ.use (by assumption) ?_); (try dsimp only))))
    exact end_c (by k_asm) (by k_asm) TT ⟨new, rfl, z2, kd2, pb2, rfl, Fu, hk2, hp2⟩
  case CR2 =>
  intro r9 h' tk' news' F' N' P9
  (try k_sweep)
  obtain ⟨nw, rfl, z2, kd2, pb2, rfl, Fu, hk2, hp2⟩ := P9
  obtain ⟨dx2, ta2, vs2, tn2, tx3, ty3, tb3, s1', s2, s3, s4, s5, m1, m2, m3, hTI2⟩ := Fu
  rcases news_dup3 N' (fun p hp => List.mem_append_left _ hp) m1 m2 m3 with N2
  clear N'
  (all_goals (repeat ((with_reducible refine OQ.use (by assumption) ?_); (try dsimp only))))
  w_strict (k_steps)
  (all_goals (repeat ((with_reducible refine OQ.use (by assumption) ?_); (try dsimp only))))
  rename News _ _ _ _ => N8
  have N2 : News H L' _ ((366, tabObj #[]) :: (359, tabObj #[]) :: (347, tabObj #[]) :: (340, tabObj #[]) :: (373, tabObj ps) :: (ex2 ++ ex1)) := news_sub N8 (by (iterate 5 (refine List.forall_mem_cons.mpr ⟨(by repeat (first | exact List.Mem.head _ | refine List.mem_cons_of_mem _ ?_ | refine List.mem_append_right _ ?_)), ?_⟩)); exact fun q hq => by repeat (first | exact hq | refine List.mem_cons_of_mem _ ?_ | refine List.mem_append_right _ ?_))
  clear N8 m1 m2 m3 hTI2
  have h2P : ∀ p ∈ ex2 ++ ex1, p.1 ≠ 373 := off_app (fun q hq => (E2 q hq).1.1) h1P
  refine Stop.mk ?_
  refine opk (fun K9 hK9 => ?_)
  k_dflt (refine' lam_any2 (P := 373) (by k_asm) (news_pull (by k_asm) (by repeat (first | exact Pull.head _ | apply Pull.tail))) (by assumption) (CodeHd.keeps CH (Below.stays (by assumption))) rfl ?off224 (SplitA.toS (by repeat (first | exact SplitA.nil | apply SplitA.cons | apply SplitA.app))) TG2 rfl rfl ?hret224)
  case off224 => ((repeat (first | (with_reducible assumption) | exact List.forall_mem_nil _ | (with_reducible refine offc ?_ ?_; k_ne) | (with_reducible refine List.forall_mem_cons.mpr ⟨?_, ?_⟩; k_ne))))
  intro f3 c3 pm ctv h' tk' ps ex3 F' N' TG3 R3 E3 G3
  (try k_sweep)
  dsimp only [AllLt] at G3
  simp only [List.cons_append, List.nil_append, List.append_nil, List.append_assoc] at N' R3
  (try dsimp only)
  (all_goals (repeat ((with_reducible refine OQ.use (by assumption) ?_); (try dsimp only))))
  w_strict (k_steps)
  (all_goals (repeat ((with_reducible refine OQ.use (by assumption) ?_); (try dsimp only))))
  refine Stop.mk ?_
  refine opk (fun K9 hK9 => ?_)
  k_dflt (refine' conT_top (heardK_size ((1500 : Int) < 1500) (fun r => ¬ (1500 : Int) < 1500 ∧ IsB r (be2 1500)) (dn := 140) (un' := 2000) XB TB ?pull225 ?CL3) (by assumption) (by k_asm) (by k_asm) (by assumption) rfl rfl rfl ?hd225 ?hu225 ?hesc225 ?CR3)
  case pull225 => k_mem
  case hd225 => first | exact Nat.le_of_ble_eq_true rfl | (dsimp only; first | exact dstep1 hdp rfl | exact dstep hdp rfl | omega)
  case hu225 => first | exact Nat.le_of_ble_eq_true rfl | (dsimp only; first | exact dstep hun rfl | exact dstep1 hun rfl | omega)
  case hesc225 => exact fun _ _ _ _ q _ => q.elim
  case CL3 =>
    refine' con_lamQ XB TB (by k_mem) (R3.mono (fun q hq => .tail _ (.tail _ hq))) rfl (locs rfl) (by decide) ?_ (by decide) rfl rfl rfl
    intro dp un gd l sh9 sg9 sd9 sk9 so9 g L' h' Q1 E1 hdp hun AN F' N' l1 B' D' X' T' TT hQ1 hE1
    (try dsimp only)
    (try k_fold)
    (all_goals (repeat ((with_reducible refine OQ.use (by assumption) ?_); (try dsimp only))))
    w_strict (k_steps)
    (all_goals (repeat ((with_reducible refine OQ.use (by assumption) ?_); (try dsimp only))))
    refine Stop.mk ?_
    refine opk (fun K9 hK9 => ?_)
    k_dflt (refine' con_step (frame_con XB TB _ _ _ _ _ _ _ _) (by assumption) (by k_asm) (news_dup1 (by k_asm) (by k_mem)) (by assumption) rfl rfl rfl ?hd227 ?hu227 ?hesc227 ?hret227)
    case hd227 => first | exact Nat.le_of_ble_eq_true rfl | (dsimp only; first | exact dstep1 hdp rfl | exact dstep hdp rfl | omega)
    case hu227 => first | exact Nat.le_of_ble_eq_true rfl | (dsimp only; first | exact dstep hun rfl | exact dstep1 hun rfl | omega)
    case hesc227 => exact fun _ _ _ _ q _ => q.elim
    intro r9 h' tk' news' F' N' P9
    (try k_sweep)
    (try dsimp only)
    obtain ⟨z, dx, t1, t2, t3, t4, t5, tb', rfl, rfl, lo1, lo2, lo3⟩ := P9
    (all_goals (repeat ((with_reducible refine OQ.use (by assumption) ?_); (try dsimp only))))
    w_strict (k_steps)
    (all_goals (repeat ((with_reducible refine OQ.use (by assumption) ?_); (try dsimp only))))
    refine Stop.mk ?_
    refine opk (fun K9 hK9 => ?_)
    k_dflt (refine' con_step (packkind_many XB TB _ _ _ _ _ _ (List.replicate 1500 0) _ _ _ _ _ _ 1500 (by assumption) (by rw [List.length_replicate]; rfl) (by decide)) (by assumption) (by k_asm) (news_dup2 (by k_asm) (by k_mem) (by k_mem)) (by assumption) rfl rfl rfl ?hd228 ?hu228 ?hesc228 ?hret228)
    case hd228 => first | exact Nat.le_of_ble_eq_true rfl | (dsimp only; first | exact dstep1 hdp rfl | exact dstep hdp rfl | omega)
    case hu228 => first | exact Nat.le_of_ble_eq_true rfl | (dsimp only; first | exact dstep hun rfl | exact dstep1 hun rfl | omega)
    case hesc228 =>
      refine con_pass2 (by first | exact fun _ _ x => x | (rename EQ9 _ _ => hE9; exact EQ9.pass hE9)) (by assumption) (by k_asm) (news_dup2 (by k_asm) (by k_mem) (by k_mem)) (by assumption) rfl ?sub228 rfl rfl ?pe228
      case sub228 => intro _ hq; repeat (first | exact hq | refine List.mem_cons_of_mem _ ?_)
      case pe228 => first | exact fun _ x => x | exact fun _ x => ⟨trivial, x⟩
    intro r9 h' tk' news' F' N' P9
    (try k_sweep)
    (try dsimp only)
    obtain ⟨rfl, P9⟩ := P9
    (all_goals (repeat ((with_reducible refine OQ.use (by assumption) ?_); (try dsimp only))))
    w_strict (k_steps)
    (all_goals (repeat ((with_reducible refine OQ.use (by assumption) ?_); (try dsimp only))))
    refine end_c (by k_asm) ?keepN TT ⟨rfl, by assumption⟩
    case keepN => exact news_sub (by k_asm) (fun q hq => by repeat (first | exact hq | refine List.mem_cons_of_mem _ ?_))
  case CR3 =>
  intro r h' tk' news' F' N' P9
  obtain ⟨rfl, P9⟩ := P9
  (try dsimp only)
  obtain ⟨_, rb, rt9, rfl, hrb⟩ := P9.resolve_right (fun q => absurd q.1 (by decide))
  (all_goals (repeat ((with_reducible refine OQ.use (by assumption) ?_); (try dsimp only))))
  w_strict (k_steps)
  (all_goals (repeat ((with_reducible refine OQ.use (by assumption) ?_); (try dsimp only))))
  refine Stop.mk ?_
  refine opk (fun K9 hK9 => ?_)
  k_dflt (refine' KBa.make_K ?kbaF231 ?kbaN231 ?kbah231 ?kbal231 ?kbai231 ?kbar231 ?kban231 ?_)
  case kbaF231 => k_asm
  case kbaN231 => k_asm
  case kbah231 => rfl
  case kbal231 => kba_isList
  case kbai231 => kba_listInts
  case kbar231 => (unfold KBa.In; repeat (first | exact List.forall_mem_nil _ | (refine List.forall_mem_cons.mpr ⟨?_, ?_⟩; (first | exact bit255 _ | (dsimp only; omega) | omega))))
  case kban231 => kba_size
  intro h' t' k' F' N' hIn
  (all_goals (repeat ((with_reducible refine OQ.use (by assumption) ?_); (try dsimp only))))
  k_dflt (refine ne_same hrb ((KBa.ints_make hIn).trans (by decide)) ?_)
  rename News _ _ _ _ => N8
  have N2 : News H L' _ ((340, tabObj #[]) :: (347, tabObj #[]) :: (359, tabObj #[]) :: (366, tabObj #[]) :: [(373, tabObj ps)]) := news_sub N8 (by (iterate 5 (refine List.forall_mem_cons.mpr ⟨(by repeat (first | exact List.Mem.head _ | refine List.mem_cons_of_mem _ ?_ | refine List.mem_append_right _ ?_)), ?_⟩)); exact List.forall_mem_nil _)
  clear N8
  have hvl : vs.length = ns.length := hI.length
  (all_goals (repeat ((with_reducible refine OQ.use (by assumption) ?_); (try dsimp only))))
  w_strict (k_steps)
  (all_goals (repeat ((with_reducible refine OQ.use (by assumption) ?_); (try dsimp only))))
  refine Stop.mk ?_
  rename IsRange _ _ _ _ _ _ _ _ => hR
  rename News _ _ _ _ => N8
  obtain ⟨N, hN2, hN⟩ : ∃ N : Nat, N ≤ 2 ∧ (N = 1 ∧ ns.length ≤ 1 ∨ N = 2 ∧ 2 ≤ ns.length) := by
    obtain h | h : ns.length ≤ 1 ∨ 2 ≤ ns.length := by omega
    · exact ⟨1, by omega, .inl ⟨rfl, h⟩⟩
    · exact ⟨2, by omega, .inr ⟨rfl, h⟩⟩
  (all_goals (repeat ((with_reducible refine OQ.use (by assumption) ?_); (try dsimp only))))
  refine iter_rangeUnr (n := N) rfl hR (range_ok (n := N) (by (repeat' split) <;> omega) (by first | decide | omega)).1 (range_ok (n := N) (by (repeat' split) <;> omega) (by first | decide | omega)).2 (by k_asm) N8 ?_
  intro I lI
  have lI0 : @LT.lt Nat _ 373 I := lI (373, tabObj ps) (by k_mem)
  k_lt lI
  refine range_ind (fun _ => TurnP (Str.ofString "source") (Str.ofString "k") _ ps) (fun m news hP h' tk' F' N' => ?_) (fun i m news hi hP t h' tk' F' N' => ?_) N 0 _ _ (Nat.zero_add _) TurnP.first
  · obtain ⟨oa, ob, p1, p2, p3, p4, T, rfl, rfl, GB⟩ := hP
    (all_goals (repeat ((with_reducible refine OQ.use (by assumption) ?_); (try dsimp only))))
    w_strict (k_steps)
    (all_goals (repeat ((with_reducible refine OQ.use (by assumption) ?_); (try dsimp only))))
    (all_goals (repeat ((with_reducible refine OQ.use (by assumption) ?_); (try dsimp only))))
    w_strict (k_steps)
    (all_goals (repeat ((with_reducible refine OQ.use (by assumption) ?_); (try dsimp only))))
  · obtain ⟨oa, ob, p1, p2, p3, p4, T, rfl, rfl, GB⟩ := hP
    (all_goals (repeat ((with_reducible refine OQ.use (by assumption) ?_); (try dsimp only))))
    w_strict (k_steps)
    (all_goals (repeat ((with_reducible refine OQ.use (by assumption) ?_); (try dsimp only))))
    refine Stop.mk ?_
    refine opk (fun K9 hK9 => ?_)
    k_dflt (refine' con_step (pool_conI XB TB la vs ns _ lifted hI (by first | decide | omega) i (by first | decide | omega)) (by assumption) (by k_asm) (by k_asm) (by assumption) rfl rfl rfl ?hd232 ?hu232 ?hesc232 ?hret232)
    case hd232 => first | exact Nat.le_of_ble_eq_true rfl | (dsimp only; first | exact dstep1 hdp rfl | exact dstep hdp rfl | omega)
    case hu232 => first | exact Nat.le_of_ble_eq_true rfl | (dsimp only; first | exact dstep hun rfl | exact dstep1 hun rfl | omega)
    case hesc232 => exact fun _ _ _ _ q _ => q.elim
    intro r9 h' tk' news' F' N' P9
    (try k_sweep)
    (try dsimp only)
    obtain ⟨sa, so, rfl, hs, rfl, hlt⟩ := P9
    have hsa : @LT.lt Nat _ 373 sa := hlt (373, tabObj ps) (by k_mem)
    have hT := turn_ne hlt
    rcases turn_in N' with N2
    clear N'
    have G := good_in (I := I) (x := (0 + ((i + 1 : Nat) : Int))) (left := ((N : Int) - ((i + 1 : Nat) : Int))) GB ⟨by k_ne, by k_ne, by k_ne, by k_ne⟩
    (all_goals (repeat ((with_reducible refine OQ.use (by assumption) ?_); (try dsimp only))))
    w_strict (k_steps)
    (all_goals (repeat ((with_reducible refine OQ.use (by assumption) ?_); (try dsimp only))))
    refine Stop.mk ?_
    refine opk (fun K9 hK9 => ?_)
    k_dflt (refine' conT_top (kinds_st XB TB (by assumption) sa _ _ _ _ _ _ hs G hT hsa) (by assumption) (by k_asm) (by k_asm) (by assumption) rfl rfl rfl ?hd233 ?hu233 ?hesc233 ?hret233)
    case hd233 => first | exact Nat.le_of_ble_eq_true rfl | (dsimp only; first | exact dstep1 hdp rfl | exact dstep hdp rfl | omega)
    case hu233 => first | exact Nat.le_of_ble_eq_true rfl | (dsimp only; first | exact dstep hun rfl | exact dstep1 hun rfl | omega)
    case hesc233 => exact fun _ _ _ _ q _ => q.elim
    intro r9 h' tk' news' F' N' P9
    (try k_sweep)
    (try dsimp only)
    obtain ⟨so, p1, p2, p3, p4, exk, rfl, hs, G2, hek, rfl⟩ := P9
    have hT2 := off_app (a := sa) (fun q hq => hek q hq) hT
    clear G hT
    have G := G2
    have hT := hT2
    clear G2 hT2
    (all_goals (repeat ((with_reducible refine OQ.use (by assumption) ?_); (try dsimp only))))
    w_strict (k_steps)
    (all_goals (repeat ((with_reducible refine OQ.use (by assumption) ?_); (try dsimp only))))
    refine Stop.mk ?_
    refine opk (fun K9 hK9 => ?_)
    k_dflt (refine' conT_top (tags_st XB TB (by assumption) sa _ _ _ _ _ _ hs G hT hsa) (by assumption) (by k_asm) (by k_asm) (by assumption) rfl rfl rfl ?hd234 ?hu234 ?hesc234 ?hret234)
    case hd234 => first | exact Nat.le_of_ble_eq_true rfl | (dsimp only; first | exact dstep1 hdp rfl | exact dstep hdp rfl | omega)
    case hu234 => first | exact Nat.le_of_ble_eq_true rfl | (dsimp only; first | exact dstep hun rfl | exact dstep1 hun rfl | omega)
    case hesc234 => exact fun _ _ _ _ q _ => q.elim
    intro r9 h' tk' news' F' N' P9
    (try k_sweep)
    (try dsimp only)
    obtain ⟨so, p1, p2, p3, p4, exk, rfl, hs, G2, hek, rfl⟩ := P9
    have hT2 := off_app (a := sa) (fun q hq => hek q hq) hT
    clear G hT
    have G := G2
    have hT := hT2
    clear G2 hT2
    (all_goals (repeat ((with_reducible refine OQ.use (by assumption) ?_); (try dsimp only))))
    w_strict (k_steps)
    (all_goals (repeat ((with_reducible refine OQ.use (by assumption) ?_); (try dsimp only))))
    refine Stop.mk ?_
    refine opk (fun K9 hK9 => ?_)
    k_dflt (refine' conT_top (most_st XB TB (by assumption) sa _ _ _ _ _ _ hs G hT hsa) (by assumption) (by k_asm) (by k_asm) (by assumption) rfl rfl rfl ?hd235 ?hu235 ?hesc235 ?hret235)
    case hd235 => first | exact Nat.le_of_ble_eq_true rfl | (dsimp only; first | exact dstep1 hdp rfl | exact dstep hdp rfl | omega)
    case hu235 => first | exact Nat.le_of_ble_eq_true rfl | (dsimp only; first | exact dstep hun rfl | exact dstep1 hun rfl | omega)
    case hesc235 => exact fun _ _ _ _ q _ => q.elim
    intro r9 h' tk' news' F' N' P9
    (try k_sweep)
    (try dsimp only)
    obtain ⟨so, p1, p2, p3, p4, exk, rfl, hs, G2, hek, rfl⟩ := P9
    have hT2 := off_app (a := sa) (fun q hq => hek q hq) hT
    clear G hT
    have G := G2
    have hT := hT2
    clear G2 hT2
    obtain hs2 | hs2 : ns.length ≤ 1 ∨ 2 ≤ ns.length := by omega
    · (all_goals (repeat ((with_reducible refine OQ.use (by assumption) ?_); (try dsimp only))))
      w_strict (k_steps)
      (all_goals (repeat ((with_reducible refine OQ.use (by assumption) ?_); (try dsimp only))))
      rename News _ _ _ _ => N8
      obtain ⟨T2, GB2, N9, off9⟩ := turn_out (p0 := ps) (x := (0 + ((i + 1 : Nat) : Int))) (left := ((N : Int) - ((i + 1 : Nat) : Int))) N8 G (by repeat (first | exact List.Mem.head _ | refine List.mem_cons_of_mem _ ?_ | refine List.mem_append_right _ ?_)) (by repeat (first | exact List.Mem.head _ | refine List.mem_cons_of_mem _ ?_ | refine List.mem_append_right _ ?_)) lI0
      exact ⟨_, _, _, _, rfl, by k_asm, N9, off9, ⟨_, _, _, _, _, _, _, up2_next, rfl, GB2⟩⟩
    · (all_goals (repeat ((with_reducible refine OQ.use (by assumption) ?_); (try dsimp only))))
      w_strict (k_steps)
      (all_goals (repeat ((with_reducible refine OQ.use (by assumption) ?_); (try dsimp only))))
      refine Stop.mk ?_
      refine opk (fun K9 hK9 => ?_)
      k_dflt (refine' conT_top (greatest_st XB TB (by assumption) sa _ _ _ _ _ _ hs G hT hsa) (by assumption) (by k_asm) (by k_asm) (by assumption) rfl rfl rfl ?hd236 ?hu236 ?hesc236 ?hret236)
      case hd236 => first | exact Nat.le_of_ble_eq_true rfl | (dsimp only; first | exact dstep1 hdp rfl | exact dstep hdp rfl | omega)
      case hu236 => first | exact Nat.le_of_ble_eq_true rfl | (dsimp only; first | exact dstep hun rfl | exact dstep1 hun rfl | omega)
      case hesc236 => exact fun _ _ _ _ q _ => q.elim
      intro r9 h' tk' news' F' N' P9
      (try k_sweep)
      (try dsimp only)
      obtain ⟨so, p1, p2, p3, p4, exk, rfl, hs, G2, hek, rfl⟩ := P9
      have hT2 := off_app (a := sa) (fun q hq => hek q hq) hT
      clear G hT
      have G := G2
      have hT := hT2
      clear G2 hT2
      (all_goals (repeat ((with_reducible refine OQ.use (by assumption) ?_); (try dsimp only))))
      w_strict (k_steps)
      (all_goals (repeat ((with_reducible refine OQ.use (by assumption) ?_); (try dsimp only))))
      rename News _ _ _ _ => N8
      obtain ⟨T2, GB2, N9, off9⟩ := turn_out (p0 := ps) (x := (0 + ((i + 1 : Nat) : Int))) (left := ((N : Int) - ((i + 1 : Nat) : Int))) N8 G (by repeat (first | exact List.Mem.head _ | refine List.mem_cons_of_mem _ ?_ | refine List.mem_append_right _ ?_)) (by repeat (first | exact List.Mem.head _ | refine List.mem_cons_of_mem _ ?_ | refine List.mem_append_right _ ?_)) lI0
      exact ⟨_, _, _, _, rfl, by k_asm, N9, off9, ⟨_, _, _, _, _, _, _, up2_next, rfl, GB2⟩⟩
end
end Lw
end
theorem PySem.Challenge.cw_pf0385_01_holds : PySem.Challenge.rw_pf0385_01.Holds :=
  Lw.cwt
