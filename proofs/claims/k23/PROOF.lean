import PyProof.Rows.All
import Wide.All
import OpenK.AllK
import Wide.FinOn
import HandS.ForMost
import HandS.ForExc
import HandS.ExcInit
import HandS.IsInst
import HandS.ExcIs
import PyProof.Rows.NestShow
import HandS.Wide
import HandS.Steps
import HandS.Defaults
import PyProof.ReprLen
import PyProof.FitsInt
import HandS.Property
import HandS.TupMul
import HandS.Star
import HandS.CallSlots
import HandS.Style
import HandS.Walk
import HandS.ExcField
import HandS.DictComp
import HandS.SortInts
import HandS.Records
import PyProof.FactsAll.object_2
import HandS.Text
import HandS.FStr
import HandS.RaiseMore
import KE.KMinKey
import HandS.SortKw
import HandS.Conv
import HandS.ClsMeth
import HandS.CallLocal
import HandS.More
import HandS.OwnEq
import HandS.MakeKw
import KE.KSuper
import KE.KFmtOwn
import HandS.Lambda
import HandS.EndTab
import KE.GoesMore
import KE.GoesEnum
import HandS.Iter
import PyProof.EqAt
import PyProof.EqKinds
import PyProof.NeKinds
import PyProof.TupleCall
import HandS.List
import PyProof.P3In
import HandS.Strs
import HandS.SetFor
import HandS.TupAny
import KE.OsRunLaw
import HandS.Zip
import PySem.Challenge.RW_heldground_k23_histories_compared
section
set_option Elab.async false
set_option linter.all false
set_option maxRecDepth 100000
set_option autoImplicit false
set_option maxHeartbeats 0
section
open PySem PySem.W PySem.Calls PyProof.Rows HeadRun
namespace L2
namespace Sg
noncomputable section
section
variable (st : SharedT → Thread → Option (SharedT × Thread)) (n0 : Nat) (an : Option Value)
/-- some statements of the top, to their end -/
def sgF : Nat → SharedT → Thread → Option (SharedT × Code × Pos)
  | 0, _, _ => none
  | m + 1, x, t => match endAt 1 t with
    | some f => (match f with
      | .next => some (x, t.code, t.pos)
      | _ => none)
    | none => (match stepOk n0 an t, st x t with
      | true, some (y, u) => frS y fun z => sgF m z u
      | _, _ => none)
end
section
variable {p : Program} {w : World} {n0 : Nat} {an : Option Value}
theorem sgF_ok {tb : String → Option Builtin} : ∀ {m : Nat} {x y : SharedT} {t : Thread} {c : Code} {q : Pos}, sgF (stepT (denote tb) p w) n0 an m x t = some (y, c, q) → segRun tb p w n0 an 1 m x.abs t = some (.next, y.abs, c, q)
  | 0, _, _, _, _, _, h => nomatch h
  | m + 1, x, y, t, c, q, h => by
    rw [sgF] at h
    rw [segRun]
    cases he : endAt 1 t with
    | some f =>
      rw [he] at h
      cases f with
      | next => cases h; rfl
      | _ => cases h
    | none =>
      rw [he] at h
      cases hk : stepOk n0 an t with
      | false => rw [hk] at h; cases h
      | true =>
        rw [hk] at h
        cases hs : stepT (denote tb) p w x t with
        | none => rw [hs] at h; cases h
        | some r =>
          obtain ⟨z, u⟩ := r
          rw [hs] at h
          replace h : (frS z fun z => sgF (stepT (denote tb) p w) n0 an m z u) = some (y, c, q) := h
          rw [frS_eq] at h
          rw [stepT_spec hs]
          exact sgF_ok h
theorem sg_put {m M : Nat} {x y : SharedT} {r : Shared} {l rest : List Stmt} {env : Env} {c : Code} {q q1 q2 : Pos} (h : sgF (stepQ (denQ tabQ) p w) n0 an m x (piecesOf l env c q1 [topFrame q]) = some (y, c, q2))
    (k : topRun treeTable p w n0 an M y.abs (restOf rest env c q2 [topFrame q]) = some r) : topRun treeTable p w n0 an (m + M) x.abs (restOf (l ++ rest) env c q1 [topFrame q]) = some r := by
  rw [← stepQ_eq, ← denQ_eq, ← tabQ_eq] at h
  exact piece_app (sgF_ok h) k
theorem go_put {M : Nat} {x y : SharedT} {t : Thread} (h : goF (stepQ (denQ tabQ) p w) n0 an M x t = some y) : topRun treeTable p w n0 an M x.abs t = some y.abs := by
  rw [← stepQ_eq, ← denQ_eq, ← tabQ_eq] at h
  exact goF_ok h
end
/-- what is to be shown of a top that comes to its end -/
theorem left_any {p q : Program} {loose : List PySem.Str} {Xt : Shared → Bool} {α : Type} {Yf : Shared → α} {Ya : World → α} {M : Nat} (e : opening p = plainProg p.main.scope.names) (le : Nat.ble 600 M = true) (f : ∀ s, fenceModules? p s = some s)
    (run : ∀ (w : World) (os : OsState), ∃ s : Shared, topRun treeTable p w (boot_heap w.params).objs.size (bootAnn w) M ⟨boot_heap w.params, #[], boot_drawn, boot_toks, os⟩ (topStub p) = some s ∧ looksF p (boot_heap w.params) s = true ∧ openSeen q loose (importedModules p.main.body) Xt true s = openGood q loose ∧ Yf s = Ya w) : LeftO p q loose Xt Yf Ya M true := fun w => by
  obtain ⟨⟨H, gs, dr, tk, os⟩, b1, b2⟩ := Option.map_eq_some_iff.mp (boot_open e le f w)
  obtain ⟨rfl, rfl, rfl, rfl⟩ : H = boot_heap w.params ∧ gs = Array.mk [] ∧ dr = boot_drawn ∧ tk = boot_toks := by simpa using b2
  obtain ⟨s, r, k1, k2, k3⟩ := run w os
  have k4 : (staticsOk (importedModules p.main.body) (boot_heap w.params) s.heap && namesBound p s.heap && gensDone s && laidKept (boot_heap w.params) s.heap) = true := k1
  have from_ : topFrom treeTable p w M ⟨boot_heap w.params, Array.mk [], boot_drawn, boot_toks, os⟩ = some s := by
    unfold topFrom
    dsimp only
    rw [boot_ns]
    show Option.bind (topRun treeTable p w (boot_heap w.params).objs.size (bootAnn w) M ⟨boot_heap w.params, #[], boot_drawn, boot_toks, os⟩ (topStub p)) _ = _
    rw [r]
    show (match staticsOk (importedModules p.main.body) (boot_heap w.params) s.heap && namesBound p s.heap && gensDone s && laidKept (boot_heap w.params) s.heap with
      | true => some s
      | false => none) = _
    rw [k4]
  unfold openEnds
  rw [b1]
  show Option.map _ (topFrom treeTable p w M _) = _
  rw [from_]
  exact congrArg some (Prod.ext k2 k3)
abbrev Z := PySem.Str.ofString
abbrev R (a : Nat) : Value := .ref a
abbrev N := BT.node
abbrev O := BT.nil
abbrev dA := L2.defArgs
abbrev dB := L2.defBody
abbrev dS := L2.defScope
abbrev ic := L2.inClass
abbrev pw : Program := PySem.Challenge.pw_heldground_k23_histories_compared
def tp (i : Nat) : Stmt := pw.main.body.getD i (.Pass ⟨0, 0, 0, 0⟩)
def o11a (P : Params) : Obj := ⟨(.type "tuple"), .none, (.seq #[] 0), #[]⟩
def o12a (P : Params) : Obj := ⟨.none, .none, (.fields #[]), #[]⟩
def o13a (P : Params) : Obj := ⟨(.type "code"), .none, (.fields #[(.str (Z "<module>") 182), (.str (Z "<module>") 183), (.str (Z "/claim/cut.py") 184), (.int 1 0), (.int 0 0), (.int 0 0), (.int 0 0), (.int 0 0), (R 11), (.bool false), (.int 181 0), (R 12), .none, .none, .none, .none, (.int 185 0), (.int 1 0), (.str (Z "/claim/cut.py") 186)]), #[]⟩
def o14a (P : Params) : Obj := ⟨(.type "frame"), .none, .plain, #[(.some (R 13)), (.some (R 3)), (.some (R 3)), .none, (.some (.str (Z "__main__") 164)), .none, (.some (R 0))]⟩
def ta (P : Params) : BT := (N (boot_o_0 P) (N (boot_o_1 P) (N (boot_o_3 P) (N (boot_o_7 P) O O) (N (o11a P) O O)) (N (boot_o_5 P) (N (boot_o_9 P) O O) (N (o13a P) O O))) (N (boot_o_2 P) (N (boot_o_4 P) (N (boot_o_8 P) O O) (N (o12a P) O O)) (N (boot_o_6 P) (N (boot_o_10 P) O O) (N (o14a P) O O))))
def Sa (w : World) (os : OsState) : SharedT := ⟨ta w.params, 15, (boot_heap w.params).life, #[], boot_drawn, 187, os⟩
def o3b (P : Params) : Obj := ⟨(.type "dict"), .none, (.dict #[⟨PyData.keyHash P (Z "__name__"), (.str (Z "__name__") 165), (.str (Z "heldground.rows") 432)⟩, ⟨PyData.keyHash P (Z "__doc__"), (.str (Z "__doc__") 166), .none⟩, ⟨PyData.keyHash P (Z "__package__"), (.str (Z "__package__") 167), .none⟩, ⟨PyData.keyHash P (Z "__loader__"), (.str (Z "__loader__") 168), (.builtin "__main__.__loader__#opaque")⟩, ⟨PyData.keyHash P (Z "__spec__"), (.str (Z "__spec__") 169), .none⟩, ⟨PyData.keyHash P (Z "__annotations__"), (.str (Z "__annotations__") 170), (R 6)⟩, ⟨PyData.keyHash P (Z "__builtins__"), (.str (Z "__builtins__") 171), (R 4)⟩, ⟨PyData.keyHash P (Z "__file__"), (.str (Z "__file__") 173), (.str (Z "/claim/cut.py") 172)⟩, ⟨PyData.keyHash P (Z "__cached__"), (.str (Z "__cached__") 174), .none⟩, ⟨PyData.keyHash P (Z "_wall"), (.str (Z "_wall") 193), (R 21)⟩, ⟨PyData.keyHash P (Z "GroundError"), (.str (Z "GroundError") 213), (R 31)⟩, ⟨PyData.keyHash P (Z "InvalidRow"), (.str (Z "InvalidRow") 238), (R 51)⟩, ⟨PyData.keyHash P (Z "InvalidChooser"), (.str (Z "InvalidChooser") 263), (R 70)⟩, ⟨PyData.keyHash P (Z "InvalidHouse"), (.str (Z "InvalidHouse") 288), (R 89)⟩, ⟨PyData.keyHash P (Z "InvalidTurn"), (.str (Z "InvalidTurn") 313), (R 108)⟩, ⟨PyData.keyHash P (Z "NoRow"), (.str (Z "NoRow") 338), (R 127)⟩, ⟨PyData.keyHash P (Z "NoNote"), (.str (Z "NoNote") 363), (R 146)⟩, ⟨PyData.keyHash P (Z "Mismatch"), (.str (Z "Mismatch") 386), (R 165)⟩, ⟨PyData.keyHash P (Z "LETTERS"), (.str (Z "LETTERS") 390), (.str (Z "abcdefghijklmnopqrstuvwxyz") 389)⟩, ⟨PyData.keyHash P (Z "DIGITS"), (.str (Z "DIGITS") 392), (.str (Z "0123456789") 391)⟩, ⟨PyData.keyHash P (Z "BARRED"), (.str (Z "BARRED") 399), (R 168)⟩, ⟨PyData.keyHash P (Z "MOST_LETTERS"), (.str (Z "MOST_LETTERS") 401), (.int 4 400)⟩, ⟨PyData.keyHash P (Z "MOST_DIGITS"), (.str (Z "MOST_DIGITS") 403), (.int 6 402)⟩, ⟨PyData.keyHash P (Z "is_integer"), (.str (Z "is_integer") 410), (R 175)⟩, ⟨PyData.keyHash P (Z "is_from"), (.str (Z "is_from") 419), (R 182)⟩, ⟨PyData.keyHash P (Z "is_name"), (.str (Z "is_name") 425), (R 187)⟩, ⟨PyData.keyHash P (Z "number_of"), (.str (Z "number_of") 431), (R 192)⟩, ⟨PyData.keyHash P (Z "LAST_SLOT"), (.str (Z "LAST_SLOT") 435), (.int 2 434)⟩, ⟨PyData.keyHash P (Z "need_slot"), (.str (Z "need_slot") 442), (R 199)⟩, ⟨PyData.keyHash P (Z "need_name"), (.str (Z "need_name") 449), (R 206)⟩, ⟨PyData.keyHash P (Z "need_number"), (.str (Z "need_number") 456), (R 213)⟩, ⟨PyData.keyHash P (Z "need_test"), (.str (Z "need_test") 463), (R 220)⟩, ⟨PyData.keyHash P (Z "need_rows"), (.str (Z "need_rows") 471), (R 227)⟩, ⟨PyData.keyHash P (Z "Part"), (.str (Z "Part") 522), (R 261)⟩, ⟨PyData.keyHash P (Z "Row"), (.str (Z "Row") 545), (R 282)⟩, ⟨PyData.keyHash P (Z "Test"), (.str (Z "Test") 561), (R 294)⟩, ⟨PyData.keyHash P (Z "Whole"), (.str (Z "Whole") 588), (R 315)⟩, ⟨PyData.keyHash P (Z "From"), (.str (Z "From") 619), (R 337)⟩, ⟨PyData.keyHash P (Z "Newest"), (.str (Z "Newest") 646), (R 358)⟩, ⟨PyData.keyHash P (Z "Oldest"), (.str (Z "Oldest") 673), (R 379)⟩, ⟨PyData.keyHash P (Z "Keep"), (.str (Z "Keep") 702), (R 400)⟩, ⟨PyData.keyHash P (Z "KeepOldest"), (.str (Z "KeepOldest") 729), (R 421)⟩] 42), #[]⟩
def o12b (P : Params) : Obj := ⟨.none, .none, (.fields #[(.int 1 0), (.int 0 0), (R 20), (.int 5 0), (.int 0 0), (R 27), (.int 7 0), (.int 0 0), (R 40), (.int 12 0), (.int 0 0), (R 59), (.int 17 0), (.int 0 0), (R 78), (.int 22 0), (.int 0 0), (R 97), (.int 27 0), (.int 0 0), (R 116), (.int 32 0), (.int 0 0), (R 135), (.int 37 0), (.int 0 0), (R 154), (.int 47 0), (.int 0 0), (R 174), (.int 49 0), (.int 0 0), (R 181), (.int 51 0), (.int 0 0), (R 186), (.int 55 0), (.int 0 0), (R 191), (.int 61 0), (.int 0 0), (R 198), (.int 64 0), (.int 0 0), (R 205), (.int 67 0), (.int 0 0), (R 212), (.int 70 0), (.int 0 0), (R 219), (.int 73 0), (.int 0 0), (R 226), (.int 80 0), (.int 0 0), (R 233), (.int 93 0), (.int 0 0), (R 271), (.int 97 0), (.int 0 0), (R 290), (.int 99 0), (.int 0 0), (R 303), (.int 104 0), (.int 0 0), (R 324), (.int 114 0), (.int 0 0), (R 346), (.int 119 0), (.int 0 0), (R 367), (.int 124 0), (.int 0 0), (R 388), (.int 131 0), (.int 0 0), (R 409)]), #[]⟩
def o15b (P : Params) : Obj := ⟨(.type "tuple"), .none, (.seq #[] 0), #[]⟩
def o16b (P : Params) : Obj := ⟨.none, .none, (.fields #[]), #[]⟩
def o17b (P : Params) : Obj := ⟨(.type "tuple"), .none, (.seq #[(.str (Z "k") 190)] 0), #[]⟩
def o18b (P : Params) : Obj := ⟨(.type "tuple"), .none, (.seq #[] 0), #[]⟩
def o19b (P : Params) : Obj := ⟨.none, .none, (.func ⟨(Z "_wall"), (Z "_wall"), dA (tp 0), .stmts (dB (tp 0)), dS (tp 0), 0, [], .none, .none, .none, .none, .none, .none, .none, 0⟩), #[]⟩
def o20b (P : Params) : Obj := ⟨(.type "code"), .none, (.fields #[(.str (Z "_wall") 187), (.str (Z "_wall") 188), (.str (Z "/claim/cut.py") 189), (.int 1 0), (.int 1 0), (.int 0 0), (.int 0 0), (.int 3 0), (R 15), (.bool true), (.int 181 0), (R 16), .none, (R 17), (R 18), (R 19), (.int 191 0), (.int 1 0), (.str (Z "/claim/cut.py") 192)]), #[]⟩
def o21b (P : Params) : Obj := ⟨(.type "function"), .none, (.func ⟨(Z "_wall"), (Z "_wall"), dA (tp 0), .stmts (dB (tp 0)), dS (tp 0), 3, [], .none, .none, .none, (.str (Z "__main__") 164), .none, (R 20), .none, 0⟩), #[]⟩
def o22b (P : Params) : Obj := ⟨(.type "tuple"), .none, (.seq #[(.type "ValueError")] 0), #[]⟩
def o23b (P : Params) : Obj := ⟨(.type "builtin_function_or_method"), .none, (.fields #[(.builtin "type.__prepare__"), (.type "type")]), #[]⟩
def o24b (P : Params) : Obj := ⟨(.type "dict"), .none, (.dict #[⟨PyData.keyHash P (Z "__module__"), (.str (Z "__module__") 203), (.str (Z "heldground.errors") 194)⟩, ⟨PyData.keyHash P (Z "__qualname__"), (.str (Z "__qualname__") 205), (.str (Z "GroundError") 204)⟩, ⟨PyData.keyHash P (Z "__firstlineno__"), (.str (Z "__firstlineno__") 207), (.int 5 206)⟩, ⟨PyData.keyHash P (Z "__static_attributes__"), (.str (Z "__static_attributes__") 208), (R 29)⟩] 4), #[]⟩
def o25b (P : Params) : Obj := ⟨(.type "tuple"), .none, (.seq #[] 0), #[]⟩
def o26b (P : Params) : Obj := ⟨.none, .none, (.fields #[]), #[]⟩
def o27b (P : Params) : Obj := ⟨(.type "code"), .none, (.fields #[(.str (Z "GroundError") 198), (.str (Z "GroundError") 199), (.str (Z "/claim/cut.py") 200), (.int 5 0), (.int 0 0), (.int 0 0), (.int 0 0), (.int 0 0), (R 25), (.bool false), (.int 181 0), (R 26), .none, .none, .none, .none, (.int 201 0), (.int 5 0), (.str (Z "/claim/cut.py") 202)]), #[]⟩
def o28b (P : Params) : Obj := ⟨(.type "frame"), .none, .plain, #[(.some (R 27)), (.some (R 3)), (.some (R 24)), .none, (.some (.str (Z "heldground.errors") 194)), .none, (.some (R 0))]⟩
def o29b (P : Params) : Obj := ⟨(.type "tuple"), .none, (.seq #[] 0), #[]⟩
def o30b (P : Params) : Obj := ⟨(.type "dict"), .none, (.dict #[⟨PyData.keyHash P (Z "__module__"), (.str (Z "__module__") 203), (.str (Z "heldground.errors") 194)⟩, ⟨PyData.keyHash P (Z "__firstlineno__"), (.str (Z "__firstlineno__") 207), (.int 5 206)⟩, ⟨PyData.keyHash P (Z "__static_attributes__"), (.str (Z "__static_attributes__") 208), (R 29)⟩, ⟨PyData.keyHash P (Z "__weakref__"), (.str (Z "__weakref__") 210), (R 32)⟩, ⟨PyData.keyHash P (Z "__doc__"), (.str (Z "__doc__") 211), .none⟩] 3), #[]⟩
def o31b (P : Params) : Obj := ⟨(.type "type"), .none, (.cls ⟨(Z "GroundError"), [(.type "ValueError")], [(R 31), (.type "ValueError"), (.type "Exception"), (.type "BaseException"), (.type "object")], 30, (Z "GroundError"), true, [], [(R 51), (R 70), (R 89), (R 108), (R 127), (R 146), (R 165)], false, .none, false⟩), #[(.some (R 22)), .none, (.some (.str (Z "GroundError") 196)), (.some (.str (Z "GroundError") 204)), (.some (.builtin "ValueError.__new__")), (.some (.bool true))]⟩
def o32b (P : Params) : Obj := ⟨(.type "getset_descriptor"), .none, (.fields #[(.str (Z "__weakref__") 209), (R 31), (.builtin "ExceptionGroup.__weakref__"), .none]), #[]⟩
def o33b (P : Params) : Obj := ⟨(.type "super"), .none, (.fields #[(R 31), (R 31), (R 31)]), #[]⟩
def o34b (P : Params) : Obj := ⟨(.type "builtin_function_or_method"), .none, (.fields #[(.builtin "object.__init_subclass__"), (R 31)]), #[]⟩
def o35b (P : Params) : Obj := ⟨(.type "tuple"), .none, (.seq #[(R 31)] 0), #[]⟩
def o36b (P : Params) : Obj := ⟨(.type "builtin_function_or_method"), .none, (.fields #[(.builtin "type.__prepare__"), (.type "type")]), #[]⟩
def o37b (P : Params) : Obj := ⟨(.type "dict"), .none, (.dict #[⟨PyData.keyHash P (Z "__module__"), (.str (Z "__module__") 221), (.str (Z "heldground.errors") 194)⟩, ⟨PyData.keyHash P (Z "__qualname__"), (.str (Z "__qualname__") 223), (.str (Z "InvalidRow") 222)⟩, ⟨PyData.keyHash P (Z "__firstlineno__"), (.str (Z "__firstlineno__") 225), (.int 7 224)⟩, ⟨PyData.keyHash P (Z "__init__"), (.str (Z "__init__") 233), (R 48)⟩, ⟨PyData.keyHash P (Z "__static_attributes__"), (.str (Z "__static_attributes__") 235), (R 49)⟩] 5), #[]⟩
def o38b (P : Params) : Obj := ⟨(.type "tuple"), .none, (.seq #[] 0), #[]⟩
def o39b (P : Params) : Obj := ⟨.none, .none, (.fields #[(.int 9 0), (.int 4 0), (R 47)]), #[]⟩
def o40b (P : Params) : Obj := ⟨(.type "code"), .none, (.fields #[(.str (Z "InvalidRow") 216), (.str (Z "InvalidRow") 217), (.str (Z "/claim/cut.py") 218), (.int 7 0), (.int 0 0), (.int 0 0), (.int 0 0), (.int 0 0), (R 38), (.bool false), (.int 181 0), (R 39), .none, .none, .none, .none, (.int 219 0), (.int 7 0), (.str (Z "/claim/cut.py") 220)]), #[]⟩
def o41b (P : Params) : Obj := ⟨(.type "frame"), .none, .plain, #[(.some (R 40)), (.some (R 3)), (.some (R 37)), .none, (.some (.str (Z "heldground.errors") 194)), .none, (.some (R 0))]⟩
def o42b (P : Params) : Obj := ⟨(.type "tuple"), .none, (.seq #[] 0), #[]⟩
def o43b (P : Params) : Obj := ⟨.none, .none, (.fields #[]), #[]⟩
def o44b (P : Params) : Obj := ⟨(.type "tuple"), .none, (.seq #[(.str (Z "self") 229), (.str (Z "part") 230)] 0), #[]⟩
def o45b (P : Params) : Obj := ⟨(.type "tuple"), .none, (.seq #[] 0), #[]⟩
def o46b (P : Params) : Obj := ⟨.none, .none, (.func ⟨(Z "__init__"), (Z "InvalidRow.__init__"), dA (ic (tp 3) 0), .stmts (dB (ic (tp 3) 0)), dS (ic (tp 3) 0), 0, [], .none, .none, .none, .none, .none, .none, .none, 0⟩), #[]⟩
def o47b (P : Params) : Obj := ⟨(.type "code"), .none, (.fields #[(.str (Z "__init__") 226), (.str (Z "InvalidRow.__init__") 227), (.str (Z "/claim/cut.py") 228), (.int 9 0), (.int 2 0), (.int 0 0), (.int 0 0), (.int 3 0), (R 42), (.bool true), (.int 181 0), (R 43), .none, (R 44), (R 45), (R 46), (.int 231 0), (.int 9 0), (.str (Z "/claim/cut.py") 232)]), #[]⟩
def o48b (P : Params) : Obj := ⟨(.type "function"), .none, (.func ⟨(Z "__init__"), (Z "InvalidRow.__init__"), dA (ic (tp 3) 0), .stmts (dB (ic (tp 3) 0)), dS (ic (tp 3) 0), 3, [], .none, .none, .none, (.str (Z "heldground.errors") 194), .none, (R 47), .none, 0⟩), #[]⟩
def o49b (P : Params) : Obj := ⟨(.type "tuple"), .none, (.seq #[(.str (Z "part") 234)] 0), #[]⟩
def o50b (P : Params) : Obj := ⟨(.type "dict"), .none, (.dict #[⟨PyData.keyHash P (Z "__module__"), (.str (Z "__module__") 221), (.str (Z "heldground.errors") 194)⟩, ⟨PyData.keyHash P (Z "__firstlineno__"), (.str (Z "__firstlineno__") 225), (.int 7 224)⟩, ⟨PyData.keyHash P (Z "__init__"), (.str (Z "__init__") 233), (R 48)⟩, ⟨PyData.keyHash P (Z "__static_attributes__"), (.str (Z "__static_attributes__") 235), (R 49)⟩, ⟨PyData.keyHash P (Z "__doc__"), (.str (Z "__doc__") 236), .none⟩] 2), #[]⟩
def o51b (P : Params) : Obj := ⟨(.type "type"), .none, (.cls ⟨(Z "InvalidRow"), [(R 31)], [(R 51), (R 31), (.type "ValueError"), (.type "Exception"), (.type "BaseException"), (.type "object")], 50, (Z "InvalidRow"), true, [], [], false, .none, false⟩), #[(.some (R 35)), .none, (.some (.str (Z "InvalidRow") 214)), (.some (.str (Z "InvalidRow") 222)), (.some (.builtin "ValueError.__new__")), (.some (.bool true))]⟩
def o52b (P : Params) : Obj := ⟨(.type "super"), .none, (.fields #[(R 51), (R 51), (R 51)]), #[]⟩
def o53b (P : Params) : Obj := ⟨(.type "builtin_function_or_method"), .none, (.fields #[(.builtin "object.__init_subclass__"), (R 51)]), #[]⟩
def o54b (P : Params) : Obj := ⟨(.type "tuple"), .none, (.seq #[(R 31)] 0), #[]⟩
def o55b (P : Params) : Obj := ⟨(.type "builtin_function_or_method"), .none, (.fields #[(.builtin "type.__prepare__"), (.type "type")]), #[]⟩
def o56b (P : Params) : Obj := ⟨(.type "dict"), .none, (.dict #[⟨PyData.keyHash P (Z "__module__"), (.str (Z "__module__") 246), (.str (Z "heldground.errors") 194)⟩, ⟨PyData.keyHash P (Z "__qualname__"), (.str (Z "__qualname__") 248), (.str (Z "InvalidChooser") 247)⟩, ⟨PyData.keyHash P (Z "__firstlineno__"), (.str (Z "__firstlineno__") 250), (.int 12 249)⟩, ⟨PyData.keyHash P (Z "__init__"), (.str (Z "__init__") 258), (R 67)⟩, ⟨PyData.keyHash P (Z "__static_attributes__"), (.str (Z "__static_attributes__") 260), (R 68)⟩] 5), #[]⟩
def o57b (P : Params) : Obj := ⟨(.type "tuple"), .none, (.seq #[] 0), #[]⟩
def o58b (P : Params) : Obj := ⟨.none, .none, (.fields #[(.int 14 0), (.int 4 0), (R 66)]), #[]⟩
def o59b (P : Params) : Obj := ⟨(.type "code"), .none, (.fields #[(.str (Z "InvalidChooser") 241), (.str (Z "InvalidChooser") 242), (.str (Z "/claim/cut.py") 243), (.int 12 0), (.int 0 0), (.int 0 0), (.int 0 0), (.int 0 0), (R 57), (.bool false), (.int 181 0), (R 58), .none, .none, .none, .none, (.int 244 0), (.int 12 0), (.str (Z "/claim/cut.py") 245)]), #[]⟩
def o60b (P : Params) : Obj := ⟨(.type "frame"), .none, .plain, #[(.some (R 59)), (.some (R 3)), (.some (R 56)), .none, (.some (.str (Z "heldground.errors") 194)), .none, (.some (R 0))]⟩
def o61b (P : Params) : Obj := ⟨(.type "tuple"), .none, (.seq #[] 0), #[]⟩
def o62b (P : Params) : Obj := ⟨.none, .none, (.fields #[]), #[]⟩
def o63b (P : Params) : Obj := ⟨(.type "tuple"), .none, (.seq #[(.str (Z "self") 254), (.str (Z "at") 255)] 0), #[]⟩
def o64b (P : Params) : Obj := ⟨(.type "tuple"), .none, (.seq #[] 0), #[]⟩
def o65b (P : Params) : Obj := ⟨.none, .none, (.func ⟨(Z "__init__"), (Z "InvalidChooser.__init__"), dA (ic (tp 4) 0), .stmts (dB (ic (tp 4) 0)), dS (ic (tp 4) 0), 0, [], .none, .none, .none, .none, .none, .none, .none, 0⟩), #[]⟩
def o66b (P : Params) : Obj := ⟨(.type "code"), .none, (.fields #[(.str (Z "__init__") 251), (.str (Z "InvalidChooser.__init__") 252), (.str (Z "/claim/cut.py") 253), (.int 14 0), (.int 2 0), (.int 0 0), (.int 0 0), (.int 3 0), (R 61), (.bool true), (.int 181 0), (R 62), .none, (R 63), (R 64), (R 65), (.int 256 0), (.int 14 0), (.str (Z "/claim/cut.py") 257)]), #[]⟩
def o67b (P : Params) : Obj := ⟨(.type "function"), .none, (.func ⟨(Z "__init__"), (Z "InvalidChooser.__init__"), dA (ic (tp 4) 0), .stmts (dB (ic (tp 4) 0)), dS (ic (tp 4) 0), 3, [], .none, .none, .none, (.str (Z "heldground.errors") 194), .none, (R 66), .none, 0⟩), #[]⟩
def o68b (P : Params) : Obj := ⟨(.type "tuple"), .none, (.seq #[(.str (Z "at") 259)] 0), #[]⟩
def o69b (P : Params) : Obj := ⟨(.type "dict"), .none, (.dict #[⟨PyData.keyHash P (Z "__module__"), (.str (Z "__module__") 246), (.str (Z "heldground.errors") 194)⟩, ⟨PyData.keyHash P (Z "__firstlineno__"), (.str (Z "__firstlineno__") 250), (.int 12 249)⟩, ⟨PyData.keyHash P (Z "__init__"), (.str (Z "__init__") 258), (R 67)⟩, ⟨PyData.keyHash P (Z "__static_attributes__"), (.str (Z "__static_attributes__") 260), (R 68)⟩, ⟨PyData.keyHash P (Z "__doc__"), (.str (Z "__doc__") 261), .none⟩] 2), #[]⟩
def o70b (P : Params) : Obj := ⟨(.type "type"), .none, (.cls ⟨(Z "InvalidChooser"), [(R 31)], [(R 70), (R 31), (.type "ValueError"), (.type "Exception"), (.type "BaseException"), (.type "object")], 69, (Z "InvalidChooser"), true, [], [], false, .none, false⟩), #[(.some (R 54)), .none, (.some (.str (Z "InvalidChooser") 239)), (.some (.str (Z "InvalidChooser") 247)), (.some (.builtin "ValueError.__new__")), (.some (.bool true))]⟩
def o71b (P : Params) : Obj := ⟨(.type "super"), .none, (.fields #[(R 70), (R 70), (R 70)]), #[]⟩
def o72b (P : Params) : Obj := ⟨(.type "builtin_function_or_method"), .none, (.fields #[(.builtin "object.__init_subclass__"), (R 70)]), #[]⟩
def o73b (P : Params) : Obj := ⟨(.type "tuple"), .none, (.seq #[(R 31)] 0), #[]⟩
def o74b (P : Params) : Obj := ⟨(.type "builtin_function_or_method"), .none, (.fields #[(.builtin "type.__prepare__"), (.type "type")]), #[]⟩
def o75b (P : Params) : Obj := ⟨(.type "dict"), .none, (.dict #[⟨PyData.keyHash P (Z "__module__"), (.str (Z "__module__") 271), (.str (Z "heldground.errors") 194)⟩, ⟨PyData.keyHash P (Z "__qualname__"), (.str (Z "__qualname__") 273), (.str (Z "InvalidHouse") 272)⟩, ⟨PyData.keyHash P (Z "__firstlineno__"), (.str (Z "__firstlineno__") 275), (.int 17 274)⟩, ⟨PyData.keyHash P (Z "__init__"), (.str (Z "__init__") 283), (R 86)⟩, ⟨PyData.keyHash P (Z "__static_attributes__"), (.str (Z "__static_attributes__") 285), (R 87)⟩] 5), #[]⟩
def o76b (P : Params) : Obj := ⟨(.type "tuple"), .none, (.seq #[] 0), #[]⟩
def o77b (P : Params) : Obj := ⟨.none, .none, (.fields #[(.int 19 0), (.int 4 0), (R 85)]), #[]⟩
def o78b (P : Params) : Obj := ⟨(.type "code"), .none, (.fields #[(.str (Z "InvalidHouse") 266), (.str (Z "InvalidHouse") 267), (.str (Z "/claim/cut.py") 268), (.int 17 0), (.int 0 0), (.int 0 0), (.int 0 0), (.int 0 0), (R 76), (.bool false), (.int 181 0), (R 77), .none, .none, .none, .none, (.int 269 0), (.int 17 0), (.str (Z "/claim/cut.py") 270)]), #[]⟩
def o79b (P : Params) : Obj := ⟨(.type "frame"), .none, .plain, #[(.some (R 78)), (.some (R 3)), (.some (R 75)), .none, (.some (.str (Z "heldground.errors") 194)), .none, (.some (R 0))]⟩
def o80b (P : Params) : Obj := ⟨(.type "tuple"), .none, (.seq #[] 0), #[]⟩
def o81b (P : Params) : Obj := ⟨.none, .none, (.fields #[]), #[]⟩
def o82b (P : Params) : Obj := ⟨(.type "tuple"), .none, (.seq #[(.str (Z "self") 279), (.str (Z "word") 280)] 0), #[]⟩
def o83b (P : Params) : Obj := ⟨(.type "tuple"), .none, (.seq #[] 0), #[]⟩
def o84b (P : Params) : Obj := ⟨.none, .none, (.func ⟨(Z "__init__"), (Z "InvalidHouse.__init__"), dA (ic (tp 5) 0), .stmts (dB (ic (tp 5) 0)), dS (ic (tp 5) 0), 0, [], .none, .none, .none, .none, .none, .none, .none, 0⟩), #[]⟩
def o85b (P : Params) : Obj := ⟨(.type "code"), .none, (.fields #[(.str (Z "__init__") 276), (.str (Z "InvalidHouse.__init__") 277), (.str (Z "/claim/cut.py") 278), (.int 19 0), (.int 2 0), (.int 0 0), (.int 0 0), (.int 3 0), (R 80), (.bool true), (.int 181 0), (R 81), .none, (R 82), (R 83), (R 84), (.int 281 0), (.int 19 0), (.str (Z "/claim/cut.py") 282)]), #[]⟩
def o86b (P : Params) : Obj := ⟨(.type "function"), .none, (.func ⟨(Z "__init__"), (Z "InvalidHouse.__init__"), dA (ic (tp 5) 0), .stmts (dB (ic (tp 5) 0)), dS (ic (tp 5) 0), 3, [], .none, .none, .none, (.str (Z "heldground.errors") 194), .none, (R 85), .none, 0⟩), #[]⟩
def o87b (P : Params) : Obj := ⟨(.type "tuple"), .none, (.seq #[(.str (Z "word") 284)] 0), #[]⟩
def o88b (P : Params) : Obj := ⟨(.type "dict"), .none, (.dict #[⟨PyData.keyHash P (Z "__module__"), (.str (Z "__module__") 271), (.str (Z "heldground.errors") 194)⟩, ⟨PyData.keyHash P (Z "__firstlineno__"), (.str (Z "__firstlineno__") 275), (.int 17 274)⟩, ⟨PyData.keyHash P (Z "__init__"), (.str (Z "__init__") 283), (R 86)⟩, ⟨PyData.keyHash P (Z "__static_attributes__"), (.str (Z "__static_attributes__") 285), (R 87)⟩, ⟨PyData.keyHash P (Z "__doc__"), (.str (Z "__doc__") 286), .none⟩] 2), #[]⟩
def o89b (P : Params) : Obj := ⟨(.type "type"), .none, (.cls ⟨(Z "InvalidHouse"), [(R 31)], [(R 89), (R 31), (.type "ValueError"), (.type "Exception"), (.type "BaseException"), (.type "object")], 88, (Z "InvalidHouse"), true, [], [], false, .none, false⟩), #[(.some (R 73)), .none, (.some (.str (Z "InvalidHouse") 264)), (.some (.str (Z "InvalidHouse") 272)), (.some (.builtin "ValueError.__new__")), (.some (.bool true))]⟩
def o90b (P : Params) : Obj := ⟨(.type "super"), .none, (.fields #[(R 89), (R 89), (R 89)]), #[]⟩
def o91b (P : Params) : Obj := ⟨(.type "builtin_function_or_method"), .none, (.fields #[(.builtin "object.__init_subclass__"), (R 89)]), #[]⟩
def o92b (P : Params) : Obj := ⟨(.type "tuple"), .none, (.seq #[(R 31)] 0), #[]⟩
def o93b (P : Params) : Obj := ⟨(.type "builtin_function_or_method"), .none, (.fields #[(.builtin "type.__prepare__"), (.type "type")]), #[]⟩
def o94b (P : Params) : Obj := ⟨(.type "dict"), .none, (.dict #[⟨PyData.keyHash P (Z "__module__"), (.str (Z "__module__") 296), (.str (Z "heldground.errors") 194)⟩, ⟨PyData.keyHash P (Z "__qualname__"), (.str (Z "__qualname__") 298), (.str (Z "InvalidTurn") 297)⟩, ⟨PyData.keyHash P (Z "__firstlineno__"), (.str (Z "__firstlineno__") 300), (.int 22 299)⟩, ⟨PyData.keyHash P (Z "__init__"), (.str (Z "__init__") 308), (R 105)⟩, ⟨PyData.keyHash P (Z "__static_attributes__"), (.str (Z "__static_attributes__") 310), (R 106)⟩] 5), #[]⟩
def o95b (P : Params) : Obj := ⟨(.type "tuple"), .none, (.seq #[] 0), #[]⟩
def o96b (P : Params) : Obj := ⟨.none, .none, (.fields #[(.int 24 0), (.int 4 0), (R 104)]), #[]⟩
def o97b (P : Params) : Obj := ⟨(.type "code"), .none, (.fields #[(.str (Z "InvalidTurn") 291), (.str (Z "InvalidTurn") 292), (.str (Z "/claim/cut.py") 293), (.int 22 0), (.int 0 0), (.int 0 0), (.int 0 0), (.int 0 0), (R 95), (.bool false), (.int 181 0), (R 96), .none, .none, .none, .none, (.int 294 0), (.int 22 0), (.str (Z "/claim/cut.py") 295)]), #[]⟩
def o98b (P : Params) : Obj := ⟨(.type "frame"), .none, .plain, #[(.some (R 97)), (.some (R 3)), (.some (R 94)), .none, (.some (.str (Z "heldground.errors") 194)), .none, (.some (R 0))]⟩
def o99b (P : Params) : Obj := ⟨(.type "tuple"), .none, (.seq #[] 0), #[]⟩
def o100b (P : Params) : Obj := ⟨.none, .none, (.fields #[]), #[]⟩
def o101b (P : Params) : Obj := ⟨(.type "tuple"), .none, (.seq #[(.str (Z "self") 304), (.str (Z "at") 305)] 0), #[]⟩
def o102b (P : Params) : Obj := ⟨(.type "tuple"), .none, (.seq #[] 0), #[]⟩
def o103b (P : Params) : Obj := ⟨.none, .none, (.func ⟨(Z "__init__"), (Z "InvalidTurn.__init__"), dA (ic (tp 6) 0), .stmts (dB (ic (tp 6) 0)), dS (ic (tp 6) 0), 0, [], .none, .none, .none, .none, .none, .none, .none, 0⟩), #[]⟩
def o104b (P : Params) : Obj := ⟨(.type "code"), .none, (.fields #[(.str (Z "__init__") 301), (.str (Z "InvalidTurn.__init__") 302), (.str (Z "/claim/cut.py") 303), (.int 24 0), (.int 2 0), (.int 0 0), (.int 0 0), (.int 3 0), (R 99), (.bool true), (.int 181 0), (R 100), .none, (R 101), (R 102), (R 103), (.int 306 0), (.int 24 0), (.str (Z "/claim/cut.py") 307)]), #[]⟩
def o105b (P : Params) : Obj := ⟨(.type "function"), .none, (.func ⟨(Z "__init__"), (Z "InvalidTurn.__init__"), dA (ic (tp 6) 0), .stmts (dB (ic (tp 6) 0)), dS (ic (tp 6) 0), 3, [], .none, .none, .none, (.str (Z "heldground.errors") 194), .none, (R 104), .none, 0⟩), #[]⟩
def o106b (P : Params) : Obj := ⟨(.type "tuple"), .none, (.seq #[(.str (Z "at") 309)] 0), #[]⟩
def o107b (P : Params) : Obj := ⟨(.type "dict"), .none, (.dict #[⟨PyData.keyHash P (Z "__module__"), (.str (Z "__module__") 296), (.str (Z "heldground.errors") 194)⟩, ⟨PyData.keyHash P (Z "__firstlineno__"), (.str (Z "__firstlineno__") 300), (.int 22 299)⟩, ⟨PyData.keyHash P (Z "__init__"), (.str (Z "__init__") 308), (R 105)⟩, ⟨PyData.keyHash P (Z "__static_attributes__"), (.str (Z "__static_attributes__") 310), (R 106)⟩, ⟨PyData.keyHash P (Z "__doc__"), (.str (Z "__doc__") 311), .none⟩] 2), #[]⟩
def o108b (P : Params) : Obj := ⟨(.type "type"), .none, (.cls ⟨(Z "InvalidTurn"), [(R 31)], [(R 108), (R 31), (.type "ValueError"), (.type "Exception"), (.type "BaseException"), (.type "object")], 107, (Z "InvalidTurn"), true, [], [], false, .none, false⟩), #[(.some (R 92)), .none, (.some (.str (Z "InvalidTurn") 289)), (.some (.str (Z "InvalidTurn") 297)), (.some (.builtin "ValueError.__new__")), (.some (.bool true))]⟩
def o109b (P : Params) : Obj := ⟨(.type "super"), .none, (.fields #[(R 108), (R 108), (R 108)]), #[]⟩
def o110b (P : Params) : Obj := ⟨(.type "builtin_function_or_method"), .none, (.fields #[(.builtin "object.__init_subclass__"), (R 108)]), #[]⟩
def o111b (P : Params) : Obj := ⟨(.type "tuple"), .none, (.seq #[(R 31)] 0), #[]⟩
def o112b (P : Params) : Obj := ⟨(.type "builtin_function_or_method"), .none, (.fields #[(.builtin "type.__prepare__"), (.type "type")]), #[]⟩
def o113b (P : Params) : Obj := ⟨(.type "dict"), .none, (.dict #[⟨PyData.keyHash P (Z "__module__"), (.str (Z "__module__") 321), (.str (Z "heldground.errors") 194)⟩, ⟨PyData.keyHash P (Z "__qualname__"), (.str (Z "__qualname__") 323), (.str (Z "NoRow") 322)⟩, ⟨PyData.keyHash P (Z "__firstlineno__"), (.str (Z "__firstlineno__") 325), (.int 27 324)⟩, ⟨PyData.keyHash P (Z "__init__"), (.str (Z "__init__") 333), (R 124)⟩, ⟨PyData.keyHash P (Z "__static_attributes__"), (.str (Z "__static_attributes__") 335), (R 125)⟩] 5), #[]⟩
def o114b (P : Params) : Obj := ⟨(.type "tuple"), .none, (.seq #[] 0), #[]⟩
def o115b (P : Params) : Obj := ⟨.none, .none, (.fields #[(.int 29 0), (.int 4 0), (R 123)]), #[]⟩
def o116b (P : Params) : Obj := ⟨(.type "code"), .none, (.fields #[(.str (Z "NoRow") 316), (.str (Z "NoRow") 317), (.str (Z "/claim/cut.py") 318), (.int 27 0), (.int 0 0), (.int 0 0), (.int 0 0), (.int 0 0), (R 114), (.bool false), (.int 181 0), (R 115), .none, .none, .none, .none, (.int 319 0), (.int 27 0), (.str (Z "/claim/cut.py") 320)]), #[]⟩
def o117b (P : Params) : Obj := ⟨(.type "frame"), .none, .plain, #[(.some (R 116)), (.some (R 3)), (.some (R 113)), .none, (.some (.str (Z "heldground.errors") 194)), .none, (.some (R 0))]⟩
def o118b (P : Params) : Obj := ⟨(.type "tuple"), .none, (.seq #[] 0), #[]⟩
def o119b (P : Params) : Obj := ⟨.none, .none, (.fields #[]), #[]⟩
def o120b (P : Params) : Obj := ⟨(.type "tuple"), .none, (.seq #[(.str (Z "self") 329), (.str (Z "at") 330)] 0), #[]⟩
def o121b (P : Params) : Obj := ⟨(.type "tuple"), .none, (.seq #[] 0), #[]⟩
def o122b (P : Params) : Obj := ⟨.none, .none, (.func ⟨(Z "__init__"), (Z "NoRow.__init__"), dA (ic (tp 7) 0), .stmts (dB (ic (tp 7) 0)), dS (ic (tp 7) 0), 0, [], .none, .none, .none, .none, .none, .none, .none, 0⟩), #[]⟩
def o123b (P : Params) : Obj := ⟨(.type "code"), .none, (.fields #[(.str (Z "__init__") 326), (.str (Z "NoRow.__init__") 327), (.str (Z "/claim/cut.py") 328), (.int 29 0), (.int 2 0), (.int 0 0), (.int 0 0), (.int 3 0), (R 118), (.bool true), (.int 181 0), (R 119), .none, (R 120), (R 121), (R 122), (.int 331 0), (.int 29 0), (.str (Z "/claim/cut.py") 332)]), #[]⟩
def o124b (P : Params) : Obj := ⟨(.type "function"), .none, (.func ⟨(Z "__init__"), (Z "NoRow.__init__"), dA (ic (tp 7) 0), .stmts (dB (ic (tp 7) 0)), dS (ic (tp 7) 0), 3, [], .none, .none, .none, (.str (Z "heldground.errors") 194), .none, (R 123), .none, 0⟩), #[]⟩
def o125b (P : Params) : Obj := ⟨(.type "tuple"), .none, (.seq #[(.str (Z "at") 334)] 0), #[]⟩
def o126b (P : Params) : Obj := ⟨(.type "dict"), .none, (.dict #[⟨PyData.keyHash P (Z "__module__"), (.str (Z "__module__") 321), (.str (Z "heldground.errors") 194)⟩, ⟨PyData.keyHash P (Z "__firstlineno__"), (.str (Z "__firstlineno__") 325), (.int 27 324)⟩, ⟨PyData.keyHash P (Z "__init__"), (.str (Z "__init__") 333), (R 124)⟩, ⟨PyData.keyHash P (Z "__static_attributes__"), (.str (Z "__static_attributes__") 335), (R 125)⟩, ⟨PyData.keyHash P (Z "__doc__"), (.str (Z "__doc__") 336), .none⟩] 2), #[]⟩
def o127b (P : Params) : Obj := ⟨(.type "type"), .none, (.cls ⟨(Z "NoRow"), [(R 31)], [(R 127), (R 31), (.type "ValueError"), (.type "Exception"), (.type "BaseException"), (.type "object")], 126, (Z "NoRow"), true, [], [], false, .none, false⟩), #[(.some (R 111)), .none, (.some (.str (Z "NoRow") 314)), (.some (.str (Z "NoRow") 322)), (.some (.builtin "ValueError.__new__")), (.some (.bool true))]⟩
def o128b (P : Params) : Obj := ⟨(.type "super"), .none, (.fields #[(R 127), (R 127), (R 127)]), #[]⟩
def o129b (P : Params) : Obj := ⟨(.type "builtin_function_or_method"), .none, (.fields #[(.builtin "object.__init_subclass__"), (R 127)]), #[]⟩
def o130b (P : Params) : Obj := ⟨(.type "tuple"), .none, (.seq #[(R 31)] 0), #[]⟩
def o131b (P : Params) : Obj := ⟨(.type "builtin_function_or_method"), .none, (.fields #[(.builtin "type.__prepare__"), (.type "type")]), #[]⟩
def o132b (P : Params) : Obj := ⟨(.type "dict"), .none, (.dict #[⟨PyData.keyHash P (Z "__module__"), (.str (Z "__module__") 346), (.str (Z "heldground.errors") 194)⟩, ⟨PyData.keyHash P (Z "__qualname__"), (.str (Z "__qualname__") 348), (.str (Z "NoNote") 347)⟩, ⟨PyData.keyHash P (Z "__firstlineno__"), (.str (Z "__firstlineno__") 350), (.int 32 349)⟩, ⟨PyData.keyHash P (Z "__init__"), (.str (Z "__init__") 358), (R 143)⟩, ⟨PyData.keyHash P (Z "__static_attributes__"), (.str (Z "__static_attributes__") 360), (R 144)⟩] 5), #[]⟩
def o133b (P : Params) : Obj := ⟨(.type "tuple"), .none, (.seq #[] 0), #[]⟩
def o134b (P : Params) : Obj := ⟨.none, .none, (.fields #[(.int 34 0), (.int 4 0), (R 142)]), #[]⟩
def o135b (P : Params) : Obj := ⟨(.type "code"), .none, (.fields #[(.str (Z "NoNote") 341), (.str (Z "NoNote") 342), (.str (Z "/claim/cut.py") 343), (.int 32 0), (.int 0 0), (.int 0 0), (.int 0 0), (.int 0 0), (R 133), (.bool false), (.int 181 0), (R 134), .none, .none, .none, .none, (.int 344 0), (.int 32 0), (.str (Z "/claim/cut.py") 345)]), #[]⟩
def o136b (P : Params) : Obj := ⟨(.type "frame"), .none, .plain, #[(.some (R 135)), (.some (R 3)), (.some (R 132)), .none, (.some (.str (Z "heldground.errors") 194)), .none, (.some (R 0))]⟩
def o137b (P : Params) : Obj := ⟨(.type "tuple"), .none, (.seq #[] 0), #[]⟩
def o138b (P : Params) : Obj := ⟨.none, .none, (.fields #[]), #[]⟩
def o139b (P : Params) : Obj := ⟨(.type "tuple"), .none, (.seq #[(.str (Z "self") 354), (.str (Z "name") 355)] 0), #[]⟩
def o140b (P : Params) : Obj := ⟨(.type "tuple"), .none, (.seq #[] 0), #[]⟩
def o141b (P : Params) : Obj := ⟨.none, .none, (.func ⟨(Z "__init__"), (Z "NoNote.__init__"), dA (ic (tp 8) 0), .stmts (dB (ic (tp 8) 0)), dS (ic (tp 8) 0), 0, [], .none, .none, .none, .none, .none, .none, .none, 0⟩), #[]⟩
def o142b (P : Params) : Obj := ⟨(.type "code"), .none, (.fields #[(.str (Z "__init__") 351), (.str (Z "NoNote.__init__") 352), (.str (Z "/claim/cut.py") 353), (.int 34 0), (.int 2 0), (.int 0 0), (.int 0 0), (.int 3 0), (R 137), (.bool true), (.int 181 0), (R 138), .none, (R 139), (R 140), (R 141), (.int 356 0), (.int 34 0), (.str (Z "/claim/cut.py") 357)]), #[]⟩
def o143b (P : Params) : Obj := ⟨(.type "function"), .none, (.func ⟨(Z "__init__"), (Z "NoNote.__init__"), dA (ic (tp 8) 0), .stmts (dB (ic (tp 8) 0)), dS (ic (tp 8) 0), 3, [], .none, .none, .none, (.str (Z "heldground.errors") 194), .none, (R 142), .none, 0⟩), #[]⟩
def o144b (P : Params) : Obj := ⟨(.type "tuple"), .none, (.seq #[(.str (Z "name") 359)] 0), #[]⟩
def o145b (P : Params) : Obj := ⟨(.type "dict"), .none, (.dict #[⟨PyData.keyHash P (Z "__module__"), (.str (Z "__module__") 346), (.str (Z "heldground.errors") 194)⟩, ⟨PyData.keyHash P (Z "__firstlineno__"), (.str (Z "__firstlineno__") 350), (.int 32 349)⟩, ⟨PyData.keyHash P (Z "__init__"), (.str (Z "__init__") 358), (R 143)⟩, ⟨PyData.keyHash P (Z "__static_attributes__"), (.str (Z "__static_attributes__") 360), (R 144)⟩, ⟨PyData.keyHash P (Z "__doc__"), (.str (Z "__doc__") 361), .none⟩] 2), #[]⟩
def o146b (P : Params) : Obj := ⟨(.type "type"), .none, (.cls ⟨(Z "NoNote"), [(R 31)], [(R 146), (R 31), (.type "ValueError"), (.type "Exception"), (.type "BaseException"), (.type "object")], 145, (Z "NoNote"), true, [], [], false, .none, false⟩), #[(.some (R 130)), .none, (.some (.str (Z "NoNote") 339)), (.some (.str (Z "NoNote") 347)), (.some (.builtin "ValueError.__new__")), (.some (.bool true))]⟩
def o147b (P : Params) : Obj := ⟨(.type "super"), .none, (.fields #[(R 146), (R 146), (R 146)]), #[]⟩
def o148b (P : Params) : Obj := ⟨(.type "builtin_function_or_method"), .none, (.fields #[(.builtin "object.__init_subclass__"), (R 146)]), #[]⟩
def o149b (P : Params) : Obj := ⟨(.type "tuple"), .none, (.seq #[(R 31)] 0), #[]⟩
def o150b (P : Params) : Obj := ⟨(.type "builtin_function_or_method"), .none, (.fields #[(.builtin "type.__prepare__"), (.type "type")]), #[]⟩
def o151b (P : Params) : Obj := ⟨(.type "dict"), .none, (.dict #[⟨PyData.keyHash P (Z "__module__"), (.str (Z "__module__") 371), (.str (Z "heldground.errors") 194)⟩, ⟨PyData.keyHash P (Z "__qualname__"), (.str (Z "__qualname__") 373), (.str (Z "Mismatch") 372)⟩, ⟨PyData.keyHash P (Z "__firstlineno__"), (.str (Z "__firstlineno__") 375), (.int 37 374)⟩, ⟨PyData.keyHash P (Z "__init__"), (.str (Z "__init__") 382), (R 162)⟩, ⟨PyData.keyHash P (Z "__static_attributes__"), (.str (Z "__static_attributes__") 383), (R 163)⟩] 5), #[]⟩
def o152b (P : Params) : Obj := ⟨(.type "tuple"), .none, (.seq #[] 0), #[]⟩
def o153b (P : Params) : Obj := ⟨.none, .none, (.fields #[(.int 39 0), (.int 4 0), (R 161)]), #[]⟩
def o154b (P : Params) : Obj := ⟨(.type "code"), .none, (.fields #[(.str (Z "Mismatch") 366), (.str (Z "Mismatch") 367), (.str (Z "/claim/cut.py") 368), (.int 37 0), (.int 0 0), (.int 0 0), (.int 0 0), (.int 0 0), (R 152), (.bool false), (.int 181 0), (R 153), .none, .none, .none, .none, (.int 369 0), (.int 37 0), (.str (Z "/claim/cut.py") 370)]), #[]⟩
def o155b (P : Params) : Obj := ⟨(.type "frame"), .none, .plain, #[(.some (R 154)), (.some (R 3)), (.some (R 151)), .none, (.some (.str (Z "heldground.errors") 194)), .none, (.some (R 0))]⟩
def o156b (P : Params) : Obj := ⟨(.type "tuple"), .none, (.seq #[] 0), #[]⟩
def o157b (P : Params) : Obj := ⟨.none, .none, (.fields #[]), #[]⟩
def o158b (P : Params) : Obj := ⟨(.type "tuple"), .none, (.seq #[(.str (Z "self") 379)] 0), #[]⟩
def o159b (P : Params) : Obj := ⟨(.type "tuple"), .none, (.seq #[] 0), #[]⟩
def o160b (P : Params) : Obj := ⟨.none, .none, (.func ⟨(Z "__init__"), (Z "Mismatch.__init__"), dA (ic (tp 9) 0), .stmts (dB (ic (tp 9) 0)), dS (ic (tp 9) 0), 0, [], .none, .none, .none, .none, .none, .none, .none, 0⟩), #[]⟩
def o161b (P : Params) : Obj := ⟨(.type "code"), .none, (.fields #[(.str (Z "__init__") 376), (.str (Z "Mismatch.__init__") 377), (.str (Z "/claim/cut.py") 378), (.int 39 0), (.int 1 0), (.int 0 0), (.int 0 0), (.int 3 0), (R 156), (.bool true), (.int 181 0), (R 157), .none, (R 158), (R 159), (R 160), (.int 380 0), (.int 39 0), (.str (Z "/claim/cut.py") 381)]), #[]⟩
def o162b (P : Params) : Obj := ⟨(.type "function"), .none, (.func ⟨(Z "__init__"), (Z "Mismatch.__init__"), dA (ic (tp 9) 0), .stmts (dB (ic (tp 9) 0)), dS (ic (tp 9) 0), 3, [], .none, .none, .none, (.str (Z "heldground.errors") 194), .none, (R 161), .none, 0⟩), #[]⟩
def o163b (P : Params) : Obj := ⟨(.type "tuple"), .none, (.seq #[] 0), #[]⟩
def o164b (P : Params) : Obj := ⟨(.type "dict"), .none, (.dict #[⟨PyData.keyHash P (Z "__module__"), (.str (Z "__module__") 371), (.str (Z "heldground.errors") 194)⟩, ⟨PyData.keyHash P (Z "__firstlineno__"), (.str (Z "__firstlineno__") 375), (.int 37 374)⟩, ⟨PyData.keyHash P (Z "__init__"), (.str (Z "__init__") 382), (R 162)⟩, ⟨PyData.keyHash P (Z "__static_attributes__"), (.str (Z "__static_attributes__") 383), (R 163)⟩, ⟨PyData.keyHash P (Z "__doc__"), (.str (Z "__doc__") 384), .none⟩] 2), #[]⟩
def o165b (P : Params) : Obj := ⟨(.type "type"), .none, (.cls ⟨(Z "Mismatch"), [(R 31)], [(R 165), (R 31), (.type "ValueError"), (.type "Exception"), (.type "BaseException"), (.type "object")], 164, (Z "Mismatch"), true, [], [], false, .none, false⟩), #[(.some (R 149)), .none, (.some (.str (Z "Mismatch") 364)), (.some (.str (Z "Mismatch") 372)), (.some (.builtin "ValueError.__new__")), (.some (.bool true))]⟩
def o166b (P : Params) : Obj := ⟨(.type "super"), .none, (.fields #[(R 165), (R 165), (R 165)]), #[]⟩
def o167b (P : Params) : Obj := ⟨(.type "builtin_function_or_method"), .none, (.fields #[(.builtin "object.__init_subclass__"), (R 165)]), #[]⟩
def o168b (P : Params) : Obj := ⟨(.type "tuple"), .none, (.seq #[(.str (Z "not") 393), (.str (Z "is") 394), (.str (Z "any") 395), (.str (Z "sure") 396), (.str (Z "bare") 397), (.str (Z "none") 398)] 0), #[]⟩
def o169b (P : Params) : Obj := ⟨(.type "tuple"), .none, (.seq #[] 0), #[]⟩
def o170b (P : Params) : Obj := ⟨.none, .none, (.fields #[]), #[]⟩
def o171b (P : Params) : Obj := ⟨(.type "tuple"), .none, (.seq #[(.str (Z "value") 407)] 0), #[]⟩
def o172b (P : Params) : Obj := ⟨(.type "tuple"), .none, (.seq #[] 0), #[]⟩
def o173b (P : Params) : Obj := ⟨.none, .none, (.func ⟨(Z "is_integer"), (Z "is_integer"), dA (tp 16), .stmts (dB (tp 16)), dS (tp 16), 0, [], .none, .none, .none, .none, .none, .none, .none, 0⟩), #[]⟩
def o174b (P : Params) : Obj := ⟨(.type "code"), .none, (.fields #[(.str (Z "is_integer") 404), (.str (Z "is_integer") 405), (.str (Z "/claim/cut.py") 406), (.int 47 0), (.int 1 0), (.int 0 0), (.int 0 0), (.int 3 0), (R 169), (.bool true), (.int 181 0), (R 170), .none, (R 171), (R 172), (R 173), (.int 408 0), (.int 47 0), (.str (Z "/claim/cut.py") 409)]), #[]⟩
def o175b (P : Params) : Obj := ⟨(.type "function"), .none, (.func ⟨(Z "is_integer"), (Z "is_integer"), dA (tp 16), .stmts (dB (tp 16)), dS (tp 16), 3, [], .none, .none, .none, (.str (Z "heldground.signs") 387), .none, (R 174), .none, 0⟩), #[]⟩
def o176b (P : Params) : Obj := ⟨(.type "tuple"), .none, (.seq #[] 0), #[]⟩
def o177b (P : Params) : Obj := ⟨.none, .none, (.fields #[]), #[]⟩
def o178b (P : Params) : Obj := ⟨(.type "tuple"), .none, (.seq #[(.str (Z "value") 414), (.str (Z "least") 415), (.str (Z "most") 416)] 0), #[]⟩
def o179b (P : Params) : Obj := ⟨(.type "tuple"), .none, (.seq #[] 0), #[]⟩
def o180b (P : Params) : Obj := ⟨.none, .none, (.func ⟨(Z "is_from"), (Z "is_from"), dA (tp 17), .stmts (dB (tp 17)), dS (tp 17), 0, [], .none, .none, .none, .none, .none, .none, .none, 0⟩), #[]⟩
def o181b (P : Params) : Obj := ⟨(.type "code"), .none, (.fields #[(.str (Z "is_from") 411), (.str (Z "is_from") 412), (.str (Z "/claim/cut.py") 413), (.int 49 0), (.int 3 0), (.int 0 0), (.int 0 0), (.int 3 0), (R 176), (.bool true), (.int 181 0), (R 177), .none, (R 178), (R 179), (R 180), (.int 417 0), (.int 49 0), (.str (Z "/claim/cut.py") 418)]), #[]⟩
def o182b (P : Params) : Obj := ⟨(.type "function"), .none, (.func ⟨(Z "is_from"), (Z "is_from"), dA (tp 17), .stmts (dB (tp 17)), dS (tp 17), 3, [], .none, .none, .none, (.str (Z "heldground.signs") 387), .none, (R 181), .none, 0⟩), #[]⟩
def o183b (P : Params) : Obj := ⟨(.type "tuple"), .none, (.seq #[] 0), #[]⟩
def o184b (P : Params) : Obj := ⟨.none, .none, (.fields #[]), #[]⟩
def o185b (P : Params) : Obj := ⟨.none, .none, (.func ⟨(Z "is_name"), (Z "is_name"), dA (tp 18), .stmts (dB (tp 18)), dS (tp 18), 0, [], .none, .none, .none, .none, .none, .none, .none, 0⟩), #[]⟩
def o186b (P : Params) : Obj := ⟨(.type "code"), .none, (.fields #[(.str (Z "is_name") 420), (.str (Z "is_name") 421), (.str (Z "/claim/cut.py") 422), (.int 51 0), (.int 1 0), (.int 0 0), (.int 0 0), (.int 3 0), (R 183), (.bool true), (.int 181 0), (R 184), .none, .none, .none, (R 185), (.int 423 0), (.int 51 0), (.str (Z "/claim/cut.py") 424)]), #[]⟩
def o187b (P : Params) : Obj := ⟨(.type "function"), .none, (.func ⟨(Z "is_name"), (Z "is_name"), dA (tp 18), .stmts (dB (tp 18)), dS (tp 18), 3, [], .none, .none, .none, (.str (Z "heldground.signs") 387), .none, (R 186), .none, 0⟩), #[]⟩
def o188b (P : Params) : Obj := ⟨(.type "tuple"), .none, (.seq #[] 0), #[]⟩
def o189b (P : Params) : Obj := ⟨.none, .none, (.fields #[]), #[]⟩
def o190b (P : Params) : Obj := ⟨.none, .none, (.func ⟨(Z "number_of"), (Z "number_of"), dA (tp 19), .stmts (dB (tp 19)), dS (tp 19), 0, [], .none, .none, .none, .none, .none, .none, .none, 0⟩), #[]⟩
def o191b (P : Params) : Obj := ⟨(.type "code"), .none, (.fields #[(.str (Z "number_of") 426), (.str (Z "number_of") 427), (.str (Z "/claim/cut.py") 428), (.int 55 0), (.int 1 0), (.int 0 0), (.int 0 0), (.int 3 0), (R 188), (.bool true), (.int 181 0), (R 189), .none, .none, .none, (R 190), (.int 429 0), (.int 55 0), (.str (Z "/claim/cut.py") 430)]), #[]⟩
def o192b (P : Params) : Obj := ⟨(.type "function"), .none, (.func ⟨(Z "number_of"), (Z "number_of"), dA (tp 19), .stmts (dB (tp 19)), dS (tp 19), 3, [], .none, .none, .none, (.str (Z "heldground.signs") 387), .none, (R 191), .none, 0⟩), #[]⟩
def o193b (P : Params) : Obj := ⟨(.type "tuple"), .none, (.seq #[] 0), #[]⟩
def o194b (P : Params) : Obj := ⟨.none, .none, (.fields #[]), #[]⟩
def o195b (P : Params) : Obj := ⟨(.type "tuple"), .none, (.seq #[(.str (Z "value") 439)] 0), #[]⟩
def o196b (P : Params) : Obj := ⟨(.type "tuple"), .none, (.seq #[] 0), #[]⟩
def o197b (P : Params) : Obj := ⟨.none, .none, (.func ⟨(Z "need_slot"), (Z "need_slot"), dA (tp 22), .stmts (dB (tp 22)), dS (tp 22), 0, [], .none, .none, .none, .none, .none, .none, .none, 0⟩), #[]⟩
def o198b (P : Params) : Obj := ⟨(.type "code"), .none, (.fields #[(.str (Z "need_slot") 436), (.str (Z "need_slot") 437), (.str (Z "/claim/cut.py") 438), (.int 61 0), (.int 1 0), (.int 0 0), (.int 0 0), (.int 3 0), (R 193), (.bool true), (.int 181 0), (R 194), .none, (R 195), (R 196), (R 197), (.int 440 0), (.int 61 0), (.str (Z "/claim/cut.py") 441)]), #[]⟩
def o199b (P : Params) : Obj := ⟨(.type "function"), .none, (.func ⟨(Z "need_slot"), (Z "need_slot"), dA (tp 22), .stmts (dB (tp 22)), dS (tp 22), 3, [], .none, .none, .none, (.str (Z "heldground.rows") 432), .none, (R 198), .none, 0⟩), #[]⟩
def o200b (P : Params) : Obj := ⟨(.type "tuple"), .none, (.seq #[] 0), #[]⟩
def o201b (P : Params) : Obj := ⟨.none, .none, (.fields #[]), #[]⟩
def o202b (P : Params) : Obj := ⟨(.type "tuple"), .none, (.seq #[(.str (Z "value") 446)] 0), #[]⟩
def o203b (P : Params) : Obj := ⟨(.type "tuple"), .none, (.seq #[] 0), #[]⟩
def o204b (P : Params) : Obj := ⟨.none, .none, (.func ⟨(Z "need_name"), (Z "need_name"), dA (tp 23), .stmts (dB (tp 23)), dS (tp 23), 0, [], .none, .none, .none, .none, .none, .none, .none, 0⟩), #[]⟩
def o205b (P : Params) : Obj := ⟨(.type "code"), .none, (.fields #[(.str (Z "need_name") 443), (.str (Z "need_name") 444), (.str (Z "/claim/cut.py") 445), (.int 64 0), (.int 1 0), (.int 0 0), (.int 0 0), (.int 3 0), (R 200), (.bool true), (.int 181 0), (R 201), .none, (R 202), (R 203), (R 204), (.int 447 0), (.int 64 0), (.str (Z "/claim/cut.py") 448)]), #[]⟩
def o206b (P : Params) : Obj := ⟨(.type "function"), .none, (.func ⟨(Z "need_name"), (Z "need_name"), dA (tp 23), .stmts (dB (tp 23)), dS (tp 23), 3, [], .none, .none, .none, (.str (Z "heldground.rows") 432), .none, (R 205), .none, 0⟩), #[]⟩
def o207b (P : Params) : Obj := ⟨(.type "tuple"), .none, (.seq #[] 0), #[]⟩
def o208b (P : Params) : Obj := ⟨.none, .none, (.fields #[]), #[]⟩
def o209b (P : Params) : Obj := ⟨(.type "tuple"), .none, (.seq #[(.str (Z "value") 453)] 0), #[]⟩
def o210b (P : Params) : Obj := ⟨(.type "tuple"), .none, (.seq #[] 0), #[]⟩
def o211b (P : Params) : Obj := ⟨.none, .none, (.func ⟨(Z "need_number"), (Z "need_number"), dA (tp 24), .stmts (dB (tp 24)), dS (tp 24), 0, [], .none, .none, .none, .none, .none, .none, .none, 0⟩), #[]⟩
def o212b (P : Params) : Obj := ⟨(.type "code"), .none, (.fields #[(.str (Z "need_number") 450), (.str (Z "need_number") 451), (.str (Z "/claim/cut.py") 452), (.int 67 0), (.int 1 0), (.int 0 0), (.int 0 0), (.int 3 0), (R 207), (.bool true), (.int 181 0), (R 208), .none, (R 209), (R 210), (R 211), (.int 454 0), (.int 67 0), (.str (Z "/claim/cut.py") 455)]), #[]⟩
def o213b (P : Params) : Obj := ⟨(.type "function"), .none, (.func ⟨(Z "need_number"), (Z "need_number"), dA (tp 24), .stmts (dB (tp 24)), dS (tp 24), 3, [], .none, .none, .none, (.str (Z "heldground.rows") 432), .none, (R 212), .none, 0⟩), #[]⟩
def o214b (P : Params) : Obj := ⟨(.type "tuple"), .none, (.seq #[] 0), #[]⟩
def o215b (P : Params) : Obj := ⟨.none, .none, (.fields #[]), #[]⟩
def o216b (P : Params) : Obj := ⟨(.type "tuple"), .none, (.seq #[(.str (Z "value") 460)] 0), #[]⟩
def o217b (P : Params) : Obj := ⟨(.type "tuple"), .none, (.seq #[] 0), #[]⟩
def o218b (P : Params) : Obj := ⟨.none, .none, (.func ⟨(Z "need_test"), (Z "need_test"), dA (tp 25), .stmts (dB (tp 25)), dS (tp 25), 0, [], .none, .none, .none, .none, .none, .none, .none, 0⟩), #[]⟩
def o219b (P : Params) : Obj := ⟨(.type "code"), .none, (.fields #[(.str (Z "need_test") 457), (.str (Z "need_test") 458), (.str (Z "/claim/cut.py") 459), (.int 70 0), (.int 1 0), (.int 0 0), (.int 0 0), (.int 3 0), (R 214), (.bool true), (.int 181 0), (R 215), .none, (R 216), (R 217), (R 218), (.int 461 0), (.int 70 0), (.str (Z "/claim/cut.py") 462)]), #[]⟩
def o220b (P : Params) : Obj := ⟨(.type "function"), .none, (.func ⟨(Z "need_test"), (Z "need_test"), dA (tp 25), .stmts (dB (tp 25)), dS (tp 25), 3, [], .none, .none, .none, (.str (Z "heldground.rows") 432), .none, (R 219), .none, 0⟩), #[]⟩
def o221b (P : Params) : Obj := ⟨(.type "tuple"), .none, (.seq #[] 0), #[]⟩
def o222b (P : Params) : Obj := ⟨.none, .none, (.fields #[]), #[]⟩
def o223b (P : Params) : Obj := ⟨(.type "tuple"), .none, (.seq #[(.str (Z "rows") 467), (.str (Z "row") 468)] 0), #[]⟩
def o224b (P : Params) : Obj := ⟨(.type "tuple"), .none, (.seq #[] 0), #[]⟩
def o225b (P : Params) : Obj := ⟨.none, .none, (.func ⟨(Z "need_rows"), (Z "need_rows"), dA (tp 26), .stmts (dB (tp 26)), dS (tp 26), 0, [], .none, .none, .none, .none, .none, .none, .none, 0⟩), #[]⟩
def o226b (P : Params) : Obj := ⟨(.type "code"), .none, (.fields #[(.str (Z "need_rows") 464), (.str (Z "need_rows") 465), (.str (Z "/claim/cut.py") 466), (.int 73 0), (.int 1 0), (.int 0 0), (.int 0 0), (.int 3 0), (R 221), (.bool true), (.int 181 0), (R 222), .none, (R 223), (R 224), (R 225), (.int 469 0), (.int 73 0), (.str (Z "/claim/cut.py") 470)]), #[]⟩
def o227b (P : Params) : Obj := ⟨(.type "function"), .none, (.func ⟨(Z "need_rows"), (Z "need_rows"), dA (tp 26), .stmts (dB (tp 26)), dS (tp 26), 3, [], .none, .none, .none, (.str (Z "heldground.rows") 432), .none, (R 226), .none, 0⟩), #[]⟩
def o228b (P : Params) : Obj := ⟨(.type "tuple"), .none, (.seq #[] 0), #[]⟩
def o229b (P : Params) : Obj := ⟨(.type "builtin_function_or_method"), .none, (.fields #[(.builtin "type.__prepare__"), (.type "type")]), #[]⟩
def o230b (P : Params) : Obj := ⟨(.type "dict"), .none, (.dict #[⟨PyData.keyHash P (Z "__module__"), (.str (Z "__module__") 479), (.str (Z "heldground.rows") 432)⟩, ⟨PyData.keyHash P (Z "__qualname__"), (.str (Z "__qualname__") 481), (.str (Z "Part") 480)⟩, ⟨PyData.keyHash P (Z "__firstlineno__"), (.str (Z "__firstlineno__") 483), (.int 80 482)⟩, ⟨PyData.keyHash P (Z "SORT"), (.str (Z "SORT") 485), (.str (Z "") 484)⟩, ⟨PyData.keyHash P (Z "__init__"), (.str (Z "__init__") 495), (R 244)⟩, ⟨PyData.keyHash P (Z "__eq__"), (.str (Z "__eq__") 503), (R 251)⟩, ⟨PyData.keyHash P (Z "__str__"), (.str (Z "__str__") 510), (R 258)⟩, ⟨PyData.keyHash P (Z "__static_attributes__"), (.str (Z "__static_attributes__") 514), (R 259)⟩] 8), #[]⟩
def o231b (P : Params) : Obj := ⟨(.type "tuple"), .none, (.seq #[] 0), #[]⟩
def o232b (P : Params) : Obj := ⟨.none, .none, (.fields #[(.int 83 0), (.int 4 0), (R 243), (.int 88 0), (.int 4 0), (R 250), (.int 91 0), (.int 4 0), (R 257)]), #[]⟩
def o233b (P : Params) : Obj := ⟨(.type "code"), .none, (.fields #[(.str (Z "Part") 474), (.str (Z "Part") 475), (.str (Z "/claim/cut.py") 476), (.int 80 0), (.int 0 0), (.int 0 0), (.int 0 0), (.int 0 0), (R 231), (.bool false), (.int 181 0), (R 232), .none, .none, .none, .none, (.int 477 0), (.int 80 0), (.str (Z "/claim/cut.py") 478)]), #[]⟩
def o234b (P : Params) : Obj := ⟨(.type "frame"), .none, .plain, #[(.some (R 233)), (.some (R 3)), (.some (R 230)), .none, (.some (.str (Z "heldground.rows") 432)), .none, (.some (R 0))]⟩
def o235b (P : Params) : Obj := ⟨(.type "tuple"), .none, (.seq #[] 0), #[]⟩
def o236b (P : Params) : Obj := ⟨(.type "tuple"), .none, (.seq #[] 0), #[]⟩
def o237b (P : Params) : Obj := ⟨(.type "tuple"), .none, (.seq #[(R 235), (R 236)] 0), #[]⟩
def o238b (P : Params) : Obj := ⟨(.type "tuple"), .none, (.seq #[] 0), #[]⟩
def o239b (P : Params) : Obj := ⟨.none, .none, (.fields #[]), #[]⟩
def o240b (P : Params) : Obj := ⟨(.type "tuple"), .none, (.seq #[(.str (Z "self") 489), (.str (Z "script") 490), (.str (Z "used") 491), (.str (Z "told_slots") 492)] 0), #[]⟩
def o241b (P : Params) : Obj := ⟨(.type "tuple"), .none, (.seq #[] 0), #[]⟩
def o242b (P : Params) : Obj := ⟨.none, .none, (.func ⟨(Z "__init__"), (Z "Part.__init__"), dA (ic (tp 27) 1), .stmts (dB (ic (tp 27) 1)), dS (ic (tp 27) 1), 0, [], .none, .none, .none, .none, .none, .none, .none, 0⟩), #[]⟩
def o243b (P : Params) : Obj := ⟨(.type "code"), .none, (.fields #[(.str (Z "__init__") 486), (.str (Z "Part.__init__") 487), (.str (Z "/claim/cut.py") 488), (.int 83 0), (.int 4 0), (.int 0 0), (.int 0 0), (.int 3 0), (R 238), (.bool true), (.int 181 0), (R 239), .none, (R 240), (R 241), (R 242), (.int 493 0), (.int 83 0), (.str (Z "/claim/cut.py") 494)]), #[]⟩
def o244b (P : Params) : Obj := ⟨(.type "function"), .none, (.func ⟨(Z "__init__"), (Z "Part.__init__"), dA (ic (tp 27) 1), .stmts (dB (ic (tp 27) 1)), dS (ic (tp 27) 1), 3, [], (R 237), .none, .none, (.str (Z "heldground.rows") 432), .none, (R 243), .none, 0⟩), #[]⟩
def o245b (P : Params) : Obj := ⟨(.type "tuple"), .none, (.seq #[] 0), #[]⟩
def o246b (P : Params) : Obj := ⟨.none, .none, (.fields #[]), #[]⟩
def o247b (P : Params) : Obj := ⟨(.type "tuple"), .none, (.seq #[(.str (Z "self") 499), (.str (Z "other") 500)] 0), #[]⟩
def o248b (P : Params) : Obj := ⟨(.type "tuple"), .none, (.seq #[] 0), #[]⟩
def o249b (P : Params) : Obj := ⟨.none, .none, (.func ⟨(Z "__eq__"), (Z "Part.__eq__"), dA (ic (tp 27) 2), .stmts (dB (ic (tp 27) 2)), dS (ic (tp 27) 2), 0, [], .none, .none, .none, .none, .none, .none, .none, 0⟩), #[]⟩
def o250b (P : Params) : Obj := ⟨(.type "code"), .none, (.fields #[(.str (Z "__eq__") 496), (.str (Z "Part.__eq__") 497), (.str (Z "/claim/cut.py") 498), (.int 88 0), (.int 2 0), (.int 0 0), (.int 0 0), (.int 3 0), (R 245), (.bool true), (.int 181 0), (R 246), .none, (R 247), (R 248), (R 249), (.int 501 0), (.int 88 0), (.str (Z "/claim/cut.py") 502)]), #[]⟩
def o251b (P : Params) : Obj := ⟨(.type "function"), .none, (.func ⟨(Z "__eq__"), (Z "Part.__eq__"), dA (ic (tp 27) 2), .stmts (dB (ic (tp 27) 2)), dS (ic (tp 27) 2), 3, [], .none, .none, .none, (.str (Z "heldground.rows") 432), .none, (R 250), .none, 0⟩), #[]⟩
def o252b (P : Params) : Obj := ⟨(.type "tuple"), .none, (.seq #[] 0), #[]⟩
def o253b (P : Params) : Obj := ⟨.none, .none, (.fields #[]), #[]⟩
def o254b (P : Params) : Obj := ⟨(.type "tuple"), .none, (.seq #[(.str (Z "self") 507)] 0), #[]⟩
def o255b (P : Params) : Obj := ⟨(.type "tuple"), .none, (.seq #[] 0), #[]⟩
def o256b (P : Params) : Obj := ⟨.none, .none, (.func ⟨(Z "__str__"), (Z "Part.__str__"), dA (ic (tp 27) 3), .stmts (dB (ic (tp 27) 3)), dS (ic (tp 27) 3), 0, [], .none, .none, .none, .none, .none, .none, .none, 0⟩), #[]⟩
def o257b (P : Params) : Obj := ⟨(.type "code"), .none, (.fields #[(.str (Z "__str__") 504), (.str (Z "Part.__str__") 505), (.str (Z "/claim/cut.py") 506), (.int 91 0), (.int 1 0), (.int 0 0), (.int 0 0), (.int 3 0), (R 252), (.bool true), (.int 181 0), (R 253), .none, (R 254), (R 255), (R 256), (.int 508 0), (.int 91 0), (.str (Z "/claim/cut.py") 509)]), #[]⟩
def o258b (P : Params) : Obj := ⟨(.type "function"), .none, (.func ⟨(Z "__str__"), (Z "Part.__str__"), dA (ic (tp 27) 3), .stmts (dB (ic (tp 27) 3)), dS (ic (tp 27) 3), 3, [], .none, .none, .none, (.str (Z "heldground.rows") 432), .none, (R 257), .none, 0⟩), #[]⟩
def o259b (P : Params) : Obj := ⟨(.type "tuple"), .none, (.seq #[(.str (Z "script") 511), (.str (Z "told_slots") 512), (.str (Z "used") 513)] 0), #[]⟩
def o260b (P : Params) : Obj := ⟨(.type "dict"), .none, (.dict #[⟨PyData.keyHash P (Z "__module__"), (.str (Z "__module__") 479), (.str (Z "heldground.rows") 432)⟩, ⟨PyData.keyHash P (Z "__firstlineno__"), (.str (Z "__firstlineno__") 483), (.int 80 482)⟩, ⟨PyData.keyHash P (Z "SORT"), (.str (Z "SORT") 485), (.str (Z "") 484)⟩, ⟨PyData.keyHash P (Z "__init__"), (.str (Z "__init__") 495), (R 244)⟩, ⟨PyData.keyHash P (Z "__eq__"), (.str (Z "__eq__") 503), (R 251)⟩, ⟨PyData.keyHash P (Z "__str__"), (.str (Z "__str__") 510), (R 258)⟩, ⟨PyData.keyHash P (Z "__static_attributes__"), (.str (Z "__static_attributes__") 514), (R 259)⟩, ⟨PyData.keyHash P (Z "__dict__"), (.str (Z "__dict__") 516), (R 262)⟩, ⟨PyData.keyHash P (Z "__weakref__"), (.str (Z "__weakref__") 518), (R 263)⟩, ⟨PyData.keyHash P (Z "__doc__"), (.str (Z "__doc__") 519), .none⟩, ⟨PyData.keyHash P (Z "__hash__"), (.str (Z "__hash__") 520), .none⟩] 5), #[]⟩
def o261b (P : Params) : Obj := ⟨(.type "type"), .none, (.cls ⟨(Z "Part"), [(.type "object")], [(R 261), (.type "object")], 260, (Z "Part"), true, [], [(R 282), (R 294)], false, .none, false⟩), #[.none, .none, (.some (.str (Z "Part") 472)), (.some (.str (Z "Part") 480)), (.some (.builtin "object.__new__")), (.some (.bool true))]⟩
def o262b (P : Params) : Obj := ⟨(.type "getset_descriptor"), .none, (.fields #[(.str (Z "__dict__") 515), (R 261), (.builtin "function.__dict__"), (.builtin "function.__dict__#set")]), #[]⟩
def o263b (P : Params) : Obj := ⟨(.type "getset_descriptor"), .none, (.fields #[(.str (Z "__weakref__") 517), (R 261), (.builtin "ExceptionGroup.__weakref__"), .none]), #[]⟩
def o264b (P : Params) : Obj := ⟨(.type "super"), .none, (.fields #[(R 261), (R 261), (R 261)]), #[]⟩
def o265b (P : Params) : Obj := ⟨(.type "builtin_function_or_method"), .none, (.fields #[(.builtin "object.__init_subclass__"), (R 261)]), #[]⟩
def o266b (P : Params) : Obj := ⟨(.type "tuple"), .none, (.seq #[(R 261)] 0), #[]⟩
def o267b (P : Params) : Obj := ⟨(.type "builtin_function_or_method"), .none, (.fields #[(.builtin "type.__prepare__"), (.type "type")]), #[]⟩
def o268b (P : Params) : Obj := ⟨(.type "dict"), .none, (.dict #[⟨PyData.keyHash P (Z "__module__"), (.str (Z "__module__") 530), (.str (Z "heldground.rows") 432)⟩, ⟨PyData.keyHash P (Z "__qualname__"), (.str (Z "__qualname__") 532), (.str (Z "Row") 531)⟩, ⟨PyData.keyHash P (Z "__firstlineno__"), (.str (Z "__firstlineno__") 534), (.int 93 533)⟩, ⟨PyData.keyHash P (Z "inner"), (.str (Z "inner") 541), (R 279)⟩, ⟨PyData.keyHash P (Z "__static_attributes__"), (.str (Z "__static_attributes__") 542), (R 280)⟩] 5), #[]⟩
def o269b (P : Params) : Obj := ⟨(.type "tuple"), .none, (.seq #[] 0), #[]⟩
def o270b (P : Params) : Obj := ⟨.none, .none, (.fields #[(.int 95 0), (.int 4 0), (R 278)]), #[]⟩
def o271b (P : Params) : Obj := ⟨(.type "code"), .none, (.fields #[(.str (Z "Row") 525), (.str (Z "Row") 526), (.str (Z "/claim/cut.py") 527), (.int 93 0), (.int 0 0), (.int 0 0), (.int 0 0), (.int 0 0), (R 269), (.bool false), (.int 181 0), (R 270), .none, .none, .none, .none, (.int 528 0), (.int 93 0), (.str (Z "/claim/cut.py") 529)]), #[]⟩
def o272b (P : Params) : Obj := ⟨(.type "frame"), .none, .plain, #[(.some (R 271)), (.some (R 3)), (.some (R 268)), .none, (.some (.str (Z "heldground.rows") 432)), .none, (.some (R 0))]⟩
def o273b (P : Params) : Obj := ⟨(.type "tuple"), .none, (.seq #[] 0), #[]⟩
def o274b (P : Params) : Obj := ⟨.none, .none, (.fields #[]), #[]⟩
def o275b (P : Params) : Obj := ⟨(.type "tuple"), .none, (.seq #[(.str (Z "self") 538)] 0), #[]⟩
def o276b (P : Params) : Obj := ⟨(.type "tuple"), .none, (.seq #[] 0), #[]⟩
def o277b (P : Params) : Obj := ⟨.none, .none, (.func ⟨(Z "inner"), (Z "Row.inner"), dA (ic (tp 28) 0), .stmts (dB (ic (tp 28) 0)), dS (ic (tp 28) 0), 0, [], .none, .none, .none, .none, .none, .none, .none, 0⟩), #[]⟩
def o278b (P : Params) : Obj := ⟨(.type "code"), .none, (.fields #[(.str (Z "inner") 535), (.str (Z "Row.inner") 536), (.str (Z "/claim/cut.py") 537), (.int 95 0), (.int 1 0), (.int 0 0), (.int 0 0), (.int 3 0), (R 273), (.bool true), (.int 181 0), (R 274), .none, (R 275), (R 276), (R 277), (.int 539 0), (.int 95 0), (.str (Z "/claim/cut.py") 540)]), #[]⟩
def o279b (P : Params) : Obj := ⟨(.type "function"), .none, (.func ⟨(Z "inner"), (Z "Row.inner"), dA (ic (tp 28) 0), .stmts (dB (ic (tp 28) 0)), dS (ic (tp 28) 0), 3, [], .none, .none, .none, (.str (Z "heldground.rows") 432), .none, (R 278), .none, 0⟩), #[]⟩
def o280b (P : Params) : Obj := ⟨(.type "tuple"), .none, (.seq #[] 0), #[]⟩
def o281b (P : Params) : Obj := ⟨(.type "dict"), .none, (.dict #[⟨PyData.keyHash P (Z "__module__"), (.str (Z "__module__") 530), (.str (Z "heldground.rows") 432)⟩, ⟨PyData.keyHash P (Z "__firstlineno__"), (.str (Z "__firstlineno__") 534), (.int 93 533)⟩, ⟨PyData.keyHash P (Z "inner"), (.str (Z "inner") 541), (R 279)⟩, ⟨PyData.keyHash P (Z "__static_attributes__"), (.str (Z "__static_attributes__") 542), (R 280)⟩, ⟨PyData.keyHash P (Z "__doc__"), (.str (Z "__doc__") 543), .none⟩] 2), #[]⟩
def o282b (P : Params) : Obj := ⟨(.type "type"), .none, (.cls ⟨(Z "Row"), [(R 261)], [(R 282), (R 261), (.type "object")], 281, (Z "Row"), true, [], [(R 315), (R 337), (R 358), (R 379), (R 400), (R 421)], false, .none, false⟩), #[(.some (R 266)), .none, (.some (.str (Z "Row") 523)), (.some (.str (Z "Row") 531)), (.some (.builtin "object.__new__")), (.some (.bool true))]⟩
def o283b (P : Params) : Obj := ⟨(.type "super"), .none, (.fields #[(R 282), (R 282), (R 282)]), #[]⟩
def o284b (P : Params) : Obj := ⟨(.type "builtin_function_or_method"), .none, (.fields #[(.builtin "object.__init_subclass__"), (R 282)]), #[]⟩
def o285b (P : Params) : Obj := ⟨(.type "tuple"), .none, (.seq #[(R 261)] 0), #[]⟩
def o286b (P : Params) : Obj := ⟨(.type "builtin_function_or_method"), .none, (.fields #[(.builtin "type.__prepare__"), (.type "type")]), #[]⟩
def o287b (P : Params) : Obj := ⟨(.type "dict"), .none, (.dict #[⟨PyData.keyHash P (Z "__module__"), (.str (Z "__module__") 553), (.str (Z "heldground.rows") 432)⟩, ⟨PyData.keyHash P (Z "__qualname__"), (.str (Z "__qualname__") 555), (.str (Z "Test") 554)⟩, ⟨PyData.keyHash P (Z "__firstlineno__"), (.str (Z "__firstlineno__") 557), (.int 97 556)⟩, ⟨PyData.keyHash P (Z "__static_attributes__"), (.str (Z "__static_attributes__") 558), (R 292)⟩] 4), #[]⟩
def o288b (P : Params) : Obj := ⟨(.type "tuple"), .none, (.seq #[] 0), #[]⟩
def o289b (P : Params) : Obj := ⟨.none, .none, (.fields #[]), #[]⟩
def o290b (P : Params) : Obj := ⟨(.type "code"), .none, (.fields #[(.str (Z "Test") 548), (.str (Z "Test") 549), (.str (Z "/claim/cut.py") 550), (.int 97 0), (.int 0 0), (.int 0 0), (.int 0 0), (.int 0 0), (R 288), (.bool false), (.int 181 0), (R 289), .none, .none, .none, .none, (.int 551 0), (.int 97 0), (.str (Z "/claim/cut.py") 552)]), #[]⟩
def o291b (P : Params) : Obj := ⟨(.type "frame"), .none, .plain, #[(.some (R 290)), (.some (R 3)), (.some (R 287)), .none, (.some (.str (Z "heldground.rows") 432)), .none, (.some (R 0))]⟩
def o292b (P : Params) : Obj := ⟨(.type "tuple"), .none, (.seq #[] 0), #[]⟩
def o293b (P : Params) : Obj := ⟨(.type "dict"), .none, (.dict #[⟨PyData.keyHash P (Z "__module__"), (.str (Z "__module__") 553), (.str (Z "heldground.rows") 432)⟩, ⟨PyData.keyHash P (Z "__firstlineno__"), (.str (Z "__firstlineno__") 557), (.int 97 556)⟩, ⟨PyData.keyHash P (Z "__static_attributes__"), (.str (Z "__static_attributes__") 558), (R 292)⟩, ⟨PyData.keyHash P (Z "__doc__"), (.str (Z "__doc__") 559), .none⟩] 2), #[]⟩
def o294b (P : Params) : Obj := ⟨(.type "type"), .none, (.cls ⟨(Z "Test"), [(R 261)], [(R 294), (R 261), (.type "object")], 293, (Z "Test"), true, [], [], false, .none, false⟩), #[(.some (R 285)), .none, (.some (.str (Z "Test") 546)), (.some (.str (Z "Test") 554)), (.some (.builtin "object.__new__")), (.some (.bool true))]⟩
def o295b (P : Params) : Obj := ⟨(.type "super"), .none, (.fields #[(R 294), (R 294), (R 294)]), #[]⟩
def o296b (P : Params) : Obj := ⟨(.type "builtin_function_or_method"), .none, (.fields #[(.builtin "object.__init_subclass__"), (R 294)]), #[]⟩
def o297b (P : Params) : Obj := ⟨(.type "tuple"), .none, (.seq #[(R 282)] 0), #[]⟩
def o298b (P : Params) : Obj := ⟨(.type "builtin_function_or_method"), .none, (.fields #[(.builtin "type.__prepare__"), (.type "type")]), #[]⟩
def o299b (P : Params) : Obj := ⟨(.type "dict"), .none, (.dict #[⟨PyData.keyHash P (Z "__module__"), (.str (Z "__module__") 569), (.str (Z "heldground.rows") 432)⟩, ⟨PyData.keyHash P (Z "__qualname__"), (.str (Z "__qualname__") 571), (.str (Z "Whole") 570)⟩, ⟨PyData.keyHash P (Z "__firstlineno__"), (.str (Z "__firstlineno__") 573), (.int 99 572)⟩, ⟨PyData.keyHash P (Z "SORT"), (.str (Z "SORT") 575), (.str (Z "whole") 574)⟩, ⟨PyData.keyHash P (Z "__init__"), (.str (Z "__init__") 583), (R 312)⟩, ⟨PyData.keyHash P (Z "__static_attributes__"), (.str (Z "__static_attributes__") 584), (R 313)⟩, ⟨PyData.keyHash P (Z "__classcell__"), (.str (Z "__classcell__") 585), (R 300)⟩] 7), #[]⟩
def o300b (P : Params) : Obj := ⟨(.type "cell"), .none, (.cell (.some (R 315))), #[]⟩
def o301b (P : Params) : Obj := ⟨(.type "tuple"), .none, (.seq #[] 0), #[]⟩
def o302b (P : Params) : Obj := ⟨.none, .none, (.fields #[(.int 102 0), (.int 4 0), (R 311)]), #[]⟩
def o303b (P : Params) : Obj := ⟨(.type "code"), .none, (.fields #[(.str (Z "Whole") 564), (.str (Z "Whole") 565), (.str (Z "/claim/cut.py") 566), (.int 99 0), (.int 0 0), (.int 0 0), (.int 0 0), (.int 0 0), (R 301), (.bool false), (.int 181 0), (R 302), .none, .none, .none, .none, (.int 567 0), (.int 99 0), (.str (Z "/claim/cut.py") 568)]), #[]⟩
def o304b (P : Params) : Obj := ⟨(.type "frame"), .none, .plain, #[(.some (R 303)), (.some (R 3)), (.some (R 299)), .none, (.some (.str (Z "heldground.rows") 432)), .none, (.some (R 0))]⟩
def o305b (P : Params) : Obj := ⟨(.type "tuple"), .none, (.seq #[(R 300)] 0), #[]⟩
def o306b (P : Params) : Obj := ⟨(.type "tuple"), .none, (.seq #[(.str (Z "__class__") 579)] 0), #[]⟩
def o307b (P : Params) : Obj := ⟨.none, .none, (.fields #[]), #[]⟩
def o308b (P : Params) : Obj := ⟨(.type "tuple"), .none, (.seq #[(.str (Z "self") 580)] 0), #[]⟩
def o309b (P : Params) : Obj := ⟨(.type "tuple"), .none, (.seq #[] 0), #[]⟩
def o310b (P : Params) : Obj := ⟨.none, .none, (.func ⟨(Z "__init__"), (Z "Whole.__init__"), dA (ic (tp 30) 1), .stmts (dB (ic (tp 30) 1)), dS (ic (tp 30) 1), 0, [], .none, .none, .none, .none, .none, .none, .none, 0⟩), #[]⟩
def o311b (P : Params) : Obj := ⟨(.type "code"), .none, (.fields #[(.str (Z "__init__") 576), (.str (Z "Whole.__init__") 577), (.str (Z "/claim/cut.py") 578), (.int 102 0), (.int 1 0), (.int 0 0), (.int 0 0), (.int 3 0), (R 306), (.bool true), (.int 181 0), (R 307), .none, (R 308), (R 309), (R 310), (.int 581 0), (.int 102 0), (.str (Z "/claim/cut.py") 582)]), #[]⟩
def o312b (P : Params) : Obj := ⟨(.type "function"), .none, (.func ⟨(Z "__init__"), (Z "Whole.__init__"), dA (ic (tp 30) 1), .stmts (dB (ic (tp 30) 1)), dS (ic (tp 30) 1), 3, [((Z "__class__"), 300)], .none, .none, .none, (.str (Z "heldground.rows") 432), .none, (R 311), (R 305), 0⟩), #[]⟩
def o313b (P : Params) : Obj := ⟨(.type "tuple"), .none, (.seq #[] 0), #[]⟩
def o314b (P : Params) : Obj := ⟨(.type "dict"), .none, (.dict #[⟨PyData.keyHash P (Z "__module__"), (.str (Z "__module__") 569), (.str (Z "heldground.rows") 432)⟩, ⟨PyData.keyHash P (Z "__firstlineno__"), (.str (Z "__firstlineno__") 573), (.int 99 572)⟩, ⟨PyData.keyHash P (Z "SORT"), (.str (Z "SORT") 575), (.str (Z "whole") 574)⟩, ⟨PyData.keyHash P (Z "__init__"), (.str (Z "__init__") 583), (R 312)⟩, ⟨PyData.keyHash P (Z "__static_attributes__"), (.str (Z "__static_attributes__") 584), (R 313)⟩, ⟨PyData.keyHash P (Z "__doc__"), (.str (Z "__doc__") 586), .none⟩] 3), #[]⟩
def o315b (P : Params) : Obj := ⟨(.type "type"), .none, (.cls ⟨(Z "Whole"), [(R 282)], [(R 315), (R 282), (R 261), (.type "object")], 314, (Z "Whole"), true, [], [], false, .none, false⟩), #[(.some (R 297)), .none, (.some (.str (Z "Whole") 562)), (.some (.str (Z "Whole") 570)), (.some (.builtin "object.__new__")), (.some (.bool true))]⟩
def o316b (P : Params) : Obj := ⟨(.type "super"), .none, (.fields #[(R 315), (R 315), (R 315)]), #[]⟩
def o317b (P : Params) : Obj := ⟨(.type "builtin_function_or_method"), .none, (.fields #[(.builtin "object.__init_subclass__"), (R 315)]), #[]⟩
def o318b (P : Params) : Obj := ⟨(.type "tuple"), .none, (.seq #[(R 282)] 0), #[]⟩
def o319b (P : Params) : Obj := ⟨(.type "builtin_function_or_method"), .none, (.fields #[(.builtin "type.__prepare__"), (.type "type")]), #[]⟩
def o320b (P : Params) : Obj := ⟨(.type "dict"), .none, (.dict #[⟨PyData.keyHash P (Z "__module__"), (.str (Z "__module__") 596), (.str (Z "heldground.rows") 432)⟩, ⟨PyData.keyHash P (Z "__qualname__"), (.str (Z "__qualname__") 598), (.str (Z "From") 597)⟩, ⟨PyData.keyHash P (Z "__firstlineno__"), (.str (Z "__firstlineno__") 600), (.int 104 599)⟩, ⟨PyData.keyHash P (Z "SORT"), (.str (Z "SORT") 602), (.str (Z "from") 601)⟩, ⟨PyData.keyHash P (Z "__init__"), (.str (Z "__init__") 612), (R 334)⟩, ⟨PyData.keyHash P (Z "__static_attributes__"), (.str (Z "__static_attributes__") 615), (R 335)⟩, ⟨PyData.keyHash P (Z "__classcell__"), (.str (Z "__classcell__") 616), (R 321)⟩] 7), #[]⟩
def o321b (P : Params) : Obj := ⟨(.type "cell"), .none, (.cell (.some (R 337))), #[]⟩
def o322b (P : Params) : Obj := ⟨(.type "tuple"), .none, (.seq #[] 0), #[]⟩
def o323b (P : Params) : Obj := ⟨.none, .none, (.fields #[(.int 107 0), (.int 4 0), (R 333)]), #[]⟩
def o324b (P : Params) : Obj := ⟨(.type "code"), .none, (.fields #[(.str (Z "From") 591), (.str (Z "From") 592), (.str (Z "/claim/cut.py") 593), (.int 104 0), (.int 0 0), (.int 0 0), (.int 0 0), (.int 0 0), (R 322), (.bool false), (.int 181 0), (R 323), .none, .none, .none, .none, (.int 594 0), (.int 104 0), (.str (Z "/claim/cut.py") 595)]), #[]⟩
def o325b (P : Params) : Obj := ⟨(.type "frame"), .none, .plain, #[(.some (R 324)), (.some (R 3)), (.some (R 320)), .none, (.some (.str (Z "heldground.rows") 432)), .none, (.some (R 0))]⟩
def o326b (P : Params) : Obj := ⟨(.type "tuple"), .none, (.seq #[(.bool false)] 0), #[]⟩
def o327b (P : Params) : Obj := ⟨(.type "tuple"), .none, (.seq #[(R 321)] 0), #[]⟩
def o328b (P : Params) : Obj := ⟨(.type "tuple"), .none, (.seq #[(.str (Z "__class__") 606)] 0), #[]⟩
def o329b (P : Params) : Obj := ⟨.none, .none, (.fields #[]), #[]⟩
def o330b (P : Params) : Obj := ⟨(.type "tuple"), .none, (.seq #[(.str (Z "self") 607), (.str (Z "slot") 608), (.str (Z "guarded") 609)] 0), #[]⟩
def o331b (P : Params) : Obj := ⟨(.type "tuple"), .none, (.seq #[] 0), #[]⟩
def o332b (P : Params) : Obj := ⟨.none, .none, (.func ⟨(Z "__init__"), (Z "From.__init__"), dA (ic (tp 31) 1), .stmts (dB (ic (tp 31) 1)), dS (ic (tp 31) 1), 0, [], .none, .none, .none, .none, .none, .none, .none, 0⟩), #[]⟩
def o333b (P : Params) : Obj := ⟨(.type "code"), .none, (.fields #[(.str (Z "__init__") 603), (.str (Z "From.__init__") 604), (.str (Z "/claim/cut.py") 605), (.int 107 0), (.int 3 0), (.int 0 0), (.int 0 0), (.int 3 0), (R 328), (.bool true), (.int 181 0), (R 329), .none, (R 330), (R 331), (R 332), (.int 610 0), (.int 107 0), (.str (Z "/claim/cut.py") 611)]), #[]⟩
def o334b (P : Params) : Obj := ⟨(.type "function"), .none, (.func ⟨(Z "__init__"), (Z "From.__init__"), dA (ic (tp 31) 1), .stmts (dB (ic (tp 31) 1)), dS (ic (tp 31) 1), 3, [((Z "__class__"), 321)], (R 326), .none, .none, (.str (Z "heldground.rows") 432), .none, (R 333), (R 327), 0⟩), #[]⟩
def o335b (P : Params) : Obj := ⟨(.type "tuple"), .none, (.seq #[(.str (Z "guarded") 613), (.str (Z "slot") 614)] 0), #[]⟩
def o336b (P : Params) : Obj := ⟨(.type "dict"), .none, (.dict #[⟨PyData.keyHash P (Z "__module__"), (.str (Z "__module__") 596), (.str (Z "heldground.rows") 432)⟩, ⟨PyData.keyHash P (Z "__firstlineno__"), (.str (Z "__firstlineno__") 600), (.int 104 599)⟩, ⟨PyData.keyHash P (Z "SORT"), (.str (Z "SORT") 602), (.str (Z "from") 601)⟩, ⟨PyData.keyHash P (Z "__init__"), (.str (Z "__init__") 612), (R 334)⟩, ⟨PyData.keyHash P (Z "__static_attributes__"), (.str (Z "__static_attributes__") 615), (R 335)⟩, ⟨PyData.keyHash P (Z "__doc__"), (.str (Z "__doc__") 617), .none⟩] 3), #[]⟩
def o337b (P : Params) : Obj := ⟨(.type "type"), .none, (.cls ⟨(Z "From"), [(R 282)], [(R 337), (R 282), (R 261), (.type "object")], 336, (Z "From"), true, [], [], false, .none, false⟩), #[(.some (R 318)), .none, (.some (.str (Z "From") 589)), (.some (.str (Z "From") 597)), (.some (.builtin "object.__new__")), (.some (.bool true))]⟩
def o338b (P : Params) : Obj := ⟨(.type "super"), .none, (.fields #[(R 337), (R 337), (R 337)]), #[]⟩
def o339b (P : Params) : Obj := ⟨(.type "builtin_function_or_method"), .none, (.fields #[(.builtin "object.__init_subclass__"), (R 337)]), #[]⟩
def o340b (P : Params) : Obj := ⟨(.type "tuple"), .none, (.seq #[(R 282)] 0), #[]⟩
def o341b (P : Params) : Obj := ⟨(.type "builtin_function_or_method"), .none, (.fields #[(.builtin "type.__prepare__"), (.type "type")]), #[]⟩
def o342b (P : Params) : Obj := ⟨(.type "dict"), .none, (.dict #[⟨PyData.keyHash P (Z "__module__"), (.str (Z "__module__") 627), (.str (Z "heldground.rows") 432)⟩, ⟨PyData.keyHash P (Z "__qualname__"), (.str (Z "__qualname__") 629), (.str (Z "Newest") 628)⟩, ⟨PyData.keyHash P (Z "__firstlineno__"), (.str (Z "__firstlineno__") 631), (.int 114 630)⟩, ⟨PyData.keyHash P (Z "SORT"), (.str (Z "SORT") 633), (.str (Z "newest") 632)⟩, ⟨PyData.keyHash P (Z "__init__"), (.str (Z "__init__") 641), (R 355)⟩, ⟨PyData.keyHash P (Z "__static_attributes__"), (.str (Z "__static_attributes__") 642), (R 356)⟩, ⟨PyData.keyHash P (Z "__classcell__"), (.str (Z "__classcell__") 643), (R 343)⟩] 7), #[]⟩
def o343b (P : Params) : Obj := ⟨(.type "cell"), .none, (.cell (.some (R 358))), #[]⟩
def o344b (P : Params) : Obj := ⟨(.type "tuple"), .none, (.seq #[] 0), #[]⟩
def o345b (P : Params) : Obj := ⟨.none, .none, (.fields #[(.int 117 0), (.int 4 0), (R 354)]), #[]⟩
def o346b (P : Params) : Obj := ⟨(.type "code"), .none, (.fields #[(.str (Z "Newest") 622), (.str (Z "Newest") 623), (.str (Z "/claim/cut.py") 624), (.int 114 0), (.int 0 0), (.int 0 0), (.int 0 0), (.int 0 0), (R 344), (.bool false), (.int 181 0), (R 345), .none, .none, .none, .none, (.int 625 0), (.int 114 0), (.str (Z "/claim/cut.py") 626)]), #[]⟩
def o347b (P : Params) : Obj := ⟨(.type "frame"), .none, .plain, #[(.some (R 346)), (.some (R 3)), (.some (R 342)), .none, (.some (.str (Z "heldground.rows") 432)), .none, (.some (R 0))]⟩
def o348b (P : Params) : Obj := ⟨(.type "tuple"), .none, (.seq #[(R 343)] 0), #[]⟩
def o349b (P : Params) : Obj := ⟨(.type "tuple"), .none, (.seq #[(.str (Z "__class__") 637)] 0), #[]⟩
def o350b (P : Params) : Obj := ⟨.none, .none, (.fields #[]), #[]⟩
def o351b (P : Params) : Obj := ⟨(.type "tuple"), .none, (.seq #[(.str (Z "self") 638)] 0), #[]⟩
def o352b (P : Params) : Obj := ⟨(.type "tuple"), .none, (.seq #[] 0), #[]⟩
def o353b (P : Params) : Obj := ⟨.none, .none, (.func ⟨(Z "__init__"), (Z "Newest.__init__"), dA (ic (tp 32) 1), .stmts (dB (ic (tp 32) 1)), dS (ic (tp 32) 1), 0, [], .none, .none, .none, .none, .none, .none, .none, 0⟩), #[]⟩
def o354b (P : Params) : Obj := ⟨(.type "code"), .none, (.fields #[(.str (Z "__init__") 634), (.str (Z "Newest.__init__") 635), (.str (Z "/claim/cut.py") 636), (.int 117 0), (.int 1 0), (.int 0 0), (.int 0 0), (.int 3 0), (R 349), (.bool true), (.int 181 0), (R 350), .none, (R 351), (R 352), (R 353), (.int 639 0), (.int 117 0), (.str (Z "/claim/cut.py") 640)]), #[]⟩
def o355b (P : Params) : Obj := ⟨(.type "function"), .none, (.func ⟨(Z "__init__"), (Z "Newest.__init__"), dA (ic (tp 32) 1), .stmts (dB (ic (tp 32) 1)), dS (ic (tp 32) 1), 3, [((Z "__class__"), 343)], .none, .none, .none, (.str (Z "heldground.rows") 432), .none, (R 354), (R 348), 0⟩), #[]⟩
def o356b (P : Params) : Obj := ⟨(.type "tuple"), .none, (.seq #[] 0), #[]⟩
def o357b (P : Params) : Obj := ⟨(.type "dict"), .none, (.dict #[⟨PyData.keyHash P (Z "__module__"), (.str (Z "__module__") 627), (.str (Z "heldground.rows") 432)⟩, ⟨PyData.keyHash P (Z "__firstlineno__"), (.str (Z "__firstlineno__") 631), (.int 114 630)⟩, ⟨PyData.keyHash P (Z "SORT"), (.str (Z "SORT") 633), (.str (Z "newest") 632)⟩, ⟨PyData.keyHash P (Z "__init__"), (.str (Z "__init__") 641), (R 355)⟩, ⟨PyData.keyHash P (Z "__static_attributes__"), (.str (Z "__static_attributes__") 642), (R 356)⟩, ⟨PyData.keyHash P (Z "__doc__"), (.str (Z "__doc__") 644), .none⟩] 3), #[]⟩
def o358b (P : Params) : Obj := ⟨(.type "type"), .none, (.cls ⟨(Z "Newest"), [(R 282)], [(R 358), (R 282), (R 261), (.type "object")], 357, (Z "Newest"), true, [], [], false, .none, false⟩), #[(.some (R 340)), .none, (.some (.str (Z "Newest") 620)), (.some (.str (Z "Newest") 628)), (.some (.builtin "object.__new__")), (.some (.bool true))]⟩
def o359b (P : Params) : Obj := ⟨(.type "super"), .none, (.fields #[(R 358), (R 358), (R 358)]), #[]⟩
def o360b (P : Params) : Obj := ⟨(.type "builtin_function_or_method"), .none, (.fields #[(.builtin "object.__init_subclass__"), (R 358)]), #[]⟩
def o361b (P : Params) : Obj := ⟨(.type "tuple"), .none, (.seq #[(R 282)] 0), #[]⟩
def o362b (P : Params) : Obj := ⟨(.type "builtin_function_or_method"), .none, (.fields #[(.builtin "type.__prepare__"), (.type "type")]), #[]⟩
def o363b (P : Params) : Obj := ⟨(.type "dict"), .none, (.dict #[⟨PyData.keyHash P (Z "__module__"), (.str (Z "__module__") 654), (.str (Z "heldground.rows") 432)⟩, ⟨PyData.keyHash P (Z "__qualname__"), (.str (Z "__qualname__") 656), (.str (Z "Oldest") 655)⟩, ⟨PyData.keyHash P (Z "__firstlineno__"), (.str (Z "__firstlineno__") 658), (.int 119 657)⟩, ⟨PyData.keyHash P (Z "SORT"), (.str (Z "SORT") 660), (.str (Z "oldest") 659)⟩, ⟨PyData.keyHash P (Z "__init__"), (.str (Z "__init__") 668), (R 376)⟩, ⟨PyData.keyHash P (Z "__static_attributes__"), (.str (Z "__static_attributes__") 669), (R 377)⟩, ⟨PyData.keyHash P (Z "__classcell__"), (.str (Z "__classcell__") 670), (R 364)⟩] 7), #[]⟩
def o364b (P : Params) : Obj := ⟨(.type "cell"), .none, (.cell (.some (R 379))), #[]⟩
def o365b (P : Params) : Obj := ⟨(.type "tuple"), .none, (.seq #[] 0), #[]⟩
def o366b (P : Params) : Obj := ⟨.none, .none, (.fields #[(.int 122 0), (.int 4 0), (R 375)]), #[]⟩
def o367b (P : Params) : Obj := ⟨(.type "code"), .none, (.fields #[(.str (Z "Oldest") 649), (.str (Z "Oldest") 650), (.str (Z "/claim/cut.py") 651), (.int 119 0), (.int 0 0), (.int 0 0), (.int 0 0), (.int 0 0), (R 365), (.bool false), (.int 181 0), (R 366), .none, .none, .none, .none, (.int 652 0), (.int 119 0), (.str (Z "/claim/cut.py") 653)]), #[]⟩
def o368b (P : Params) : Obj := ⟨(.type "frame"), .none, .plain, #[(.some (R 367)), (.some (R 3)), (.some (R 363)), .none, (.some (.str (Z "heldground.rows") 432)), .none, (.some (R 0))]⟩
def o369b (P : Params) : Obj := ⟨(.type "tuple"), .none, (.seq #[(R 364)] 0), #[]⟩
def o370b (P : Params) : Obj := ⟨(.type "tuple"), .none, (.seq #[(.str (Z "__class__") 664)] 0), #[]⟩
def o371b (P : Params) : Obj := ⟨.none, .none, (.fields #[]), #[]⟩
def o372b (P : Params) : Obj := ⟨(.type "tuple"), .none, (.seq #[(.str (Z "self") 665)] 0), #[]⟩
def o373b (P : Params) : Obj := ⟨(.type "tuple"), .none, (.seq #[] 0), #[]⟩
def o374b (P : Params) : Obj := ⟨.none, .none, (.func ⟨(Z "__init__"), (Z "Oldest.__init__"), dA (ic (tp 33) 1), .stmts (dB (ic (tp 33) 1)), dS (ic (tp 33) 1), 0, [], .none, .none, .none, .none, .none, .none, .none, 0⟩), #[]⟩
def o375b (P : Params) : Obj := ⟨(.type "code"), .none, (.fields #[(.str (Z "__init__") 661), (.str (Z "Oldest.__init__") 662), (.str (Z "/claim/cut.py") 663), (.int 122 0), (.int 1 0), (.int 0 0), (.int 0 0), (.int 3 0), (R 370), (.bool true), (.int 181 0), (R 371), .none, (R 372), (R 373), (R 374), (.int 666 0), (.int 122 0), (.str (Z "/claim/cut.py") 667)]), #[]⟩
def o376b (P : Params) : Obj := ⟨(.type "function"), .none, (.func ⟨(Z "__init__"), (Z "Oldest.__init__"), dA (ic (tp 33) 1), .stmts (dB (ic (tp 33) 1)), dS (ic (tp 33) 1), 3, [((Z "__class__"), 364)], .none, .none, .none, (.str (Z "heldground.rows") 432), .none, (R 375), (R 369), 0⟩), #[]⟩
def o377b (P : Params) : Obj := ⟨(.type "tuple"), .none, (.seq #[] 0), #[]⟩
def o378b (P : Params) : Obj := ⟨(.type "dict"), .none, (.dict #[⟨PyData.keyHash P (Z "__module__"), (.str (Z "__module__") 654), (.str (Z "heldground.rows") 432)⟩, ⟨PyData.keyHash P (Z "__firstlineno__"), (.str (Z "__firstlineno__") 658), (.int 119 657)⟩, ⟨PyData.keyHash P (Z "SORT"), (.str (Z "SORT") 660), (.str (Z "oldest") 659)⟩, ⟨PyData.keyHash P (Z "__init__"), (.str (Z "__init__") 668), (R 376)⟩, ⟨PyData.keyHash P (Z "__static_attributes__"), (.str (Z "__static_attributes__") 669), (R 377)⟩, ⟨PyData.keyHash P (Z "__doc__"), (.str (Z "__doc__") 671), .none⟩] 3), #[]⟩
def o379b (P : Params) : Obj := ⟨(.type "type"), .none, (.cls ⟨(Z "Oldest"), [(R 282)], [(R 379), (R 282), (R 261), (.type "object")], 378, (Z "Oldest"), true, [], [], false, .none, false⟩), #[(.some (R 361)), .none, (.some (.str (Z "Oldest") 647)), (.some (.str (Z "Oldest") 655)), (.some (.builtin "object.__new__")), (.some (.bool true))]⟩
def o380b (P : Params) : Obj := ⟨(.type "super"), .none, (.fields #[(R 379), (R 379), (R 379)]), #[]⟩
def o381b (P : Params) : Obj := ⟨(.type "builtin_function_or_method"), .none, (.fields #[(.builtin "object.__init_subclass__"), (R 379)]), #[]⟩
def o382b (P : Params) : Obj := ⟨(.type "tuple"), .none, (.seq #[(R 282)] 0), #[]⟩
def o383b (P : Params) : Obj := ⟨(.type "builtin_function_or_method"), .none, (.fields #[(.builtin "type.__prepare__"), (.type "type")]), #[]⟩
def o384b (P : Params) : Obj := ⟨(.type "dict"), .none, (.dict #[⟨PyData.keyHash P (Z "__module__"), (.str (Z "__module__") 681), (.str (Z "heldground.rows") 432)⟩, ⟨PyData.keyHash P (Z "__qualname__"), (.str (Z "__qualname__") 683), (.str (Z "Keep") 682)⟩, ⟨PyData.keyHash P (Z "__firstlineno__"), (.str (Z "__firstlineno__") 685), (.int 124 684)⟩, ⟨PyData.keyHash P (Z "SORT"), (.str (Z "SORT") 687), (.str (Z "keep") 686)⟩, ⟨PyData.keyHash P (Z "__init__"), (.str (Z "__init__") 696), (R 397)⟩, ⟨PyData.keyHash P (Z "__static_attributes__"), (.str (Z "__static_attributes__") 698), (R 398)⟩, ⟨PyData.keyHash P (Z "__classcell__"), (.str (Z "__classcell__") 699), (R 385)⟩] 7), #[]⟩
def o385b (P : Params) : Obj := ⟨(.type "cell"), .none, (.cell (.some (R 400))), #[]⟩
def o386b (P : Params) : Obj := ⟨(.type "tuple"), .none, (.seq #[] 0), #[]⟩
def o387b (P : Params) : Obj := ⟨.none, .none, (.fields #[(.int 127 0), (.int 4 0), (R 396)]), #[]⟩
def o388b (P : Params) : Obj := ⟨(.type "code"), .none, (.fields #[(.str (Z "Keep") 676), (.str (Z "Keep") 677), (.str (Z "/claim/cut.py") 678), (.int 124 0), (.int 0 0), (.int 0 0), (.int 0 0), (.int 0 0), (R 386), (.bool false), (.int 181 0), (R 387), .none, .none, .none, .none, (.int 679 0), (.int 124 0), (.str (Z "/claim/cut.py") 680)]), #[]⟩
def o389b (P : Params) : Obj := ⟨(.type "frame"), .none, .plain, #[(.some (R 388)), (.some (R 3)), (.some (R 384)), .none, (.some (.str (Z "heldground.rows") 432)), .none, (.some (R 0))]⟩
def o390b (P : Params) : Obj := ⟨(.type "tuple"), .none, (.seq #[(R 385)] 0), #[]⟩
def o391b (P : Params) : Obj := ⟨(.type "tuple"), .none, (.seq #[(.str (Z "__class__") 691)] 0), #[]⟩
def o392b (P : Params) : Obj := ⟨.none, .none, (.fields #[]), #[]⟩
def o393b (P : Params) : Obj := ⟨(.type "tuple"), .none, (.seq #[(.str (Z "self") 692), (.str (Z "slot") 693)] 0), #[]⟩
def o394b (P : Params) : Obj := ⟨(.type "tuple"), .none, (.seq #[] 0), #[]⟩
def o395b (P : Params) : Obj := ⟨.none, .none, (.func ⟨(Z "__init__"), (Z "Keep.__init__"), dA (ic (tp 34) 1), .stmts (dB (ic (tp 34) 1)), dS (ic (tp 34) 1), 0, [], .none, .none, .none, .none, .none, .none, .none, 0⟩), #[]⟩
def o396b (P : Params) : Obj := ⟨(.type "code"), .none, (.fields #[(.str (Z "__init__") 688), (.str (Z "Keep.__init__") 689), (.str (Z "/claim/cut.py") 690), (.int 127 0), (.int 2 0), (.int 0 0), (.int 0 0), (.int 3 0), (R 391), (.bool true), (.int 181 0), (R 392), .none, (R 393), (R 394), (R 395), (.int 694 0), (.int 127 0), (.str (Z "/claim/cut.py") 695)]), #[]⟩
def o397b (P : Params) : Obj := ⟨(.type "function"), .none, (.func ⟨(Z "__init__"), (Z "Keep.__init__"), dA (ic (tp 34) 1), .stmts (dB (ic (tp 34) 1)), dS (ic (tp 34) 1), 3, [((Z "__class__"), 385)], .none, .none, .none, (.str (Z "heldground.rows") 432), .none, (R 396), (R 390), 0⟩), #[]⟩
def o398b (P : Params) : Obj := ⟨(.type "tuple"), .none, (.seq #[(.str (Z "slot") 697)] 0), #[]⟩
def o399b (P : Params) : Obj := ⟨(.type "dict"), .none, (.dict #[⟨PyData.keyHash P (Z "__module__"), (.str (Z "__module__") 681), (.str (Z "heldground.rows") 432)⟩, ⟨PyData.keyHash P (Z "__firstlineno__"), (.str (Z "__firstlineno__") 685), (.int 124 684)⟩, ⟨PyData.keyHash P (Z "SORT"), (.str (Z "SORT") 687), (.str (Z "keep") 686)⟩, ⟨PyData.keyHash P (Z "__init__"), (.str (Z "__init__") 696), (R 397)⟩, ⟨PyData.keyHash P (Z "__static_attributes__"), (.str (Z "__static_attributes__") 698), (R 398)⟩, ⟨PyData.keyHash P (Z "__doc__"), (.str (Z "__doc__") 700), .none⟩] 3), #[]⟩
def o400b (P : Params) : Obj := ⟨(.type "type"), .none, (.cls ⟨(Z "Keep"), [(R 282)], [(R 400), (R 282), (R 261), (.type "object")], 399, (Z "Keep"), true, [], [], false, .none, false⟩), #[(.some (R 382)), .none, (.some (.str (Z "Keep") 674)), (.some (.str (Z "Keep") 682)), (.some (.builtin "object.__new__")), (.some (.bool true))]⟩
def o401b (P : Params) : Obj := ⟨(.type "super"), .none, (.fields #[(R 400), (R 400), (R 400)]), #[]⟩
def o402b (P : Params) : Obj := ⟨(.type "builtin_function_or_method"), .none, (.fields #[(.builtin "object.__init_subclass__"), (R 400)]), #[]⟩
def o403b (P : Params) : Obj := ⟨(.type "tuple"), .none, (.seq #[(R 282)] 0), #[]⟩
def o404b (P : Params) : Obj := ⟨(.type "builtin_function_or_method"), .none, (.fields #[(.builtin "type.__prepare__"), (.type "type")]), #[]⟩
def o405b (P : Params) : Obj := ⟨(.type "dict"), .none, (.dict #[⟨PyData.keyHash P (Z "__module__"), (.str (Z "__module__") 710), (.str (Z "heldground.rows") 432)⟩, ⟨PyData.keyHash P (Z "__qualname__"), (.str (Z "__qualname__") 712), (.str (Z "KeepOldest") 711)⟩, ⟨PyData.keyHash P (Z "__firstlineno__"), (.str (Z "__firstlineno__") 714), (.int 131 713)⟩, ⟨PyData.keyHash P (Z "SORT"), (.str (Z "SORT") 716), (.str (Z "keep oldest") 715)⟩, ⟨PyData.keyHash P (Z "__init__"), (.str (Z "__init__") 724), (R 418)⟩, ⟨PyData.keyHash P (Z "__static_attributes__"), (.str (Z "__static_attributes__") 725), (R 419)⟩, ⟨PyData.keyHash P (Z "__classcell__"), (.str (Z "__classcell__") 726), (R 406)⟩] 7), #[]⟩
def o406b (P : Params) : Obj := ⟨(.type "cell"), .none, (.cell (.some (R 421))), #[]⟩
def o407b (P : Params) : Obj := ⟨(.type "tuple"), .none, (.seq #[] 0), #[]⟩
def o408b (P : Params) : Obj := ⟨.none, .none, (.fields #[(.int 134 0), (.int 4 0), (R 417)]), #[]⟩
def o409b (P : Params) : Obj := ⟨(.type "code"), .none, (.fields #[(.str (Z "KeepOldest") 705), (.str (Z "KeepOldest") 706), (.str (Z "/claim/cut.py") 707), (.int 131 0), (.int 0 0), (.int 0 0), (.int 0 0), (.int 0 0), (R 407), (.bool false), (.int 181 0), (R 408), .none, .none, .none, .none, (.int 708 0), (.int 131 0), (.str (Z "/claim/cut.py") 709)]), #[]⟩
def o410b (P : Params) : Obj := ⟨(.type "frame"), .none, .plain, #[(.some (R 409)), (.some (R 3)), (.some (R 405)), .none, (.some (.str (Z "heldground.rows") 432)), .none, (.some (R 0))]⟩
def o411b (P : Params) : Obj := ⟨(.type "tuple"), .none, (.seq #[(R 406)] 0), #[]⟩
def o412b (P : Params) : Obj := ⟨(.type "tuple"), .none, (.seq #[(.str (Z "__class__") 720)] 0), #[]⟩
def o413b (P : Params) : Obj := ⟨.none, .none, (.fields #[]), #[]⟩
def o414b (P : Params) : Obj := ⟨(.type "tuple"), .none, (.seq #[(.str (Z "self") 721)] 0), #[]⟩
def o415b (P : Params) : Obj := ⟨(.type "tuple"), .none, (.seq #[] 0), #[]⟩
def o416b (P : Params) : Obj := ⟨.none, .none, (.func ⟨(Z "__init__"), (Z "KeepOldest.__init__"), dA (ic (tp 35) 1), .stmts (dB (ic (tp 35) 1)), dS (ic (tp 35) 1), 0, [], .none, .none, .none, .none, .none, .none, .none, 0⟩), #[]⟩
def o417b (P : Params) : Obj := ⟨(.type "code"), .none, (.fields #[(.str (Z "__init__") 717), (.str (Z "KeepOldest.__init__") 718), (.str (Z "/claim/cut.py") 719), (.int 134 0), (.int 1 0), (.int 0 0), (.int 0 0), (.int 3 0), (R 412), (.bool true), (.int 181 0), (R 413), .none, (R 414), (R 415), (R 416), (.int 722 0), (.int 134 0), (.str (Z "/claim/cut.py") 723)]), #[]⟩
def o418b (P : Params) : Obj := ⟨(.type "function"), .none, (.func ⟨(Z "__init__"), (Z "KeepOldest.__init__"), dA (ic (tp 35) 1), .stmts (dB (ic (tp 35) 1)), dS (ic (tp 35) 1), 3, [((Z "__class__"), 406)], .none, .none, .none, (.str (Z "heldground.rows") 432), .none, (R 417), (R 411), 0⟩), #[]⟩
def o419b (P : Params) : Obj := ⟨(.type "tuple"), .none, (.seq #[] 0), #[]⟩
def o420b (P : Params) : Obj := ⟨(.type "dict"), .none, (.dict #[⟨PyData.keyHash P (Z "__module__"), (.str (Z "__module__") 710), (.str (Z "heldground.rows") 432)⟩, ⟨PyData.keyHash P (Z "__firstlineno__"), (.str (Z "__firstlineno__") 714), (.int 131 713)⟩, ⟨PyData.keyHash P (Z "SORT"), (.str (Z "SORT") 716), (.str (Z "keep oldest") 715)⟩, ⟨PyData.keyHash P (Z "__init__"), (.str (Z "__init__") 724), (R 418)⟩, ⟨PyData.keyHash P (Z "__static_attributes__"), (.str (Z "__static_attributes__") 725), (R 419)⟩, ⟨PyData.keyHash P (Z "__doc__"), (.str (Z "__doc__") 727), .none⟩] 3), #[]⟩
def o421b (P : Params) : Obj := ⟨(.type "type"), .none, (.cls ⟨(Z "KeepOldest"), [(R 282)], [(R 421), (R 282), (R 261), (.type "object")], 420, (Z "KeepOldest"), true, [], [], false, .none, false⟩), #[(.some (R 403)), .none, (.some (.str (Z "KeepOldest") 703)), (.some (.str (Z "KeepOldest") 711)), (.some (.builtin "object.__new__")), (.some (.bool true))]⟩
def o422b (P : Params) : Obj := ⟨(.type "super"), .none, (.fields #[(R 421), (R 421), (R 421)]), #[]⟩
def o423b (P : Params) : Obj := ⟨(.type "builtin_function_or_method"), .none, (.fields #[(.builtin "object.__init_subclass__"), (R 421)]), #[]⟩
def tb (P : Params) : BT := (N (boot_o_0 P) (N (boot_o_1 P) (N (o3b P) (N (boot_o_7 P) (N (o15b P) (N (o31b P) (N (o63b P) (N (o127b P) (N (o255b P) O O) (N (o383b P) O O)) (N (o191b P) (N (o319b P) O O) O)) (N (o95b P) (N (o159b P) (N (o287b P) O O) (N (o415b P) O O)) (N (o223b P) (N (o351b P) O O) O))) (N (o47b P) (N (o79b P) (N (o143b P) (N (o271b P) O O) (N (o399b P) O O)) (N (o207b P) (N (o335b P) O O) O)) (N (o111b P) (N (o175b P) (N (o303b P) O O) O) (N (o239b P) (N (o367b P) O O) O)))) (N (o23b P) (N (o39b P) (N (o71b P) (N (o135b P) (N (o263b P) O O) (N (o391b P) O O)) (N (o199b P) (N (o327b P) O O) O)) (N (o103b P) (N (o167b P) (N (o295b P) O O) (N (o423b P) O O)) (N (o231b P) (N (o359b P) O O) O))) (N (o55b P) (N (o87b P) (N (o151b P) (N (o279b P) O O) (N (o407b P) O O)) (N (o215b P) (N (o343b P) O O) O)) (N (o119b P) (N (o183b P) (N (o311b P) O O) O) (N (o247b P) (N (o375b P) O O) O))))) (N (o11a P) (N (o19b P) (N (o35b P) (N (o67b P) (N (o131b P) (N (o259b P) O O) (N (o387b P) O O)) (N (o195b P) (N (o323b P) O O) O)) (N (o99b P) (N (o163b P) (N (o291b P) O O) (N (o419b P) O O)) (N (o227b P) (N (o355b P) O O) O))) (N (o51b P) (N (o83b P) (N (o147b P) (N (o275b P) O O) (N (o403b P) O O)) (N (o211b P) (N (o339b P) O O) O)) (N (o115b P) (N (o179b P) (N (o307b P) O O) O) (N (o243b P) (N (o371b P) O O) O)))) (N (o27b P) (N (o43b P) (N (o75b P) (N (o139b P) (N (o267b P) O O) (N (o395b P) O O)) (N (o203b P) (N (o331b P) O O) O)) (N (o107b P) (N (o171b P) (N (o299b P) O O) O) (N (o235b P) (N (o363b P) O O) O))) (N (o59b P) (N (o91b P) (N (o155b P) (N (o283b P) O O) (N (o411b P) O O)) (N (o219b P) (N (o347b P) O O) O)) (N (o123b P) (N (o187b P) (N (o315b P) O O) O) (N (o251b P) (N (o379b P) O O) O)))))) (N (boot_o_5 P) (N (boot_o_9 P) (N (o17b P) (N (o33b P) (N (o65b P) (N (o129b P) (N (o257b P) O O) (N (o385b P) O O)) (N (o193b P) (N (o321b P) O O) O)) (N (o97b P) (N (o161b P) (N (o289b P) O O) (N (o417b P) O O)) (N (o225b P) (N (o353b P) O O) O))) (N (o49b P) (N (o81b P) (N (o145b P) (N (o273b P) O O) (N (o401b P) O O)) (N (o209b P) (N (o337b P) O O) O)) (N (o113b P) (N (o177b P) (N (o305b P) O O) O) (N (o241b P) (N (o369b P) O O) O)))) (N (o25b P) (N (o41b P) (N (o73b P) (N (o137b P) (N (o265b P) O O) (N (o393b P) O O)) (N (o201b P) (N (o329b P) O O) O)) (N (o105b P) (N (o169b P) (N (o297b P) O O) O) (N (o233b P) (N (o361b P) O O) O))) (N (o57b P) (N (o89b P) (N (o153b P) (N (o281b P) O O) (N (o409b P) O O)) (N (o217b P) (N (o345b P) O O) O)) (N (o121b P) (N (o185b P) (N (o313b P) O O) O) (N (o249b P) (N (o377b P) O O) O))))) (N (o13a P) (N (o21b P) (N (o37b P) (N (o69b P) (N (o133b P) (N (o261b P) O O) (N (o389b P) O O)) (N (o197b P) (N (o325b P) O O) O)) (N (o101b P) (N (o165b P) (N (o293b P) O O) (N (o421b P) O O)) (N (o229b P) (N (o357b P) O O) O))) (N (o53b P) (N (o85b P) (N (o149b P) (N (o277b P) O O) (N (o405b P) O O)) (N (o213b P) (N (o341b P) O O) O)) (N (o117b P) (N (o181b P) (N (o309b P) O O) O) (N (o245b P) (N (o373b P) O O) O)))) (N (o29b P) (N (o45b P) (N (o77b P) (N (o141b P) (N (o269b P) O O) (N (o397b P) O O)) (N (o205b P) (N (o333b P) O O) O)) (N (o109b P) (N (o173b P) (N (o301b P) O O) O) (N (o237b P) (N (o365b P) O O) O))) (N (o61b P) (N (o93b P) (N (o157b P) (N (o285b P) O O) (N (o413b P) O O)) (N (o221b P) (N (o349b P) O O) O)) (N (o125b P) (N (o189b P) (N (o317b P) O O) O) (N (o253b P) (N (o381b P) O O) O))))))) (N (boot_o_2 P) (N (boot_o_4 P) (N (boot_o_8 P) (N (o16b P) (N (o32b P) (N (o64b P) (N (o128b P) (N (o256b P) O O) (N (o384b P) O O)) (N (o192b P) (N (o320b P) O O) O)) (N (o96b P) (N (o160b P) (N (o288b P) O O) (N (o416b P) O O)) (N (o224b P) (N (o352b P) O O) O))) (N (o48b P) (N (o80b P) (N (o144b P) (N (o272b P) O O) (N (o400b P) O O)) (N (o208b P) (N (o336b P) O O) O)) (N (o112b P) (N (o176b P) (N (o304b P) O O) O) (N (o240b P) (N (o368b P) O O) O)))) (N (o24b P) (N (o40b P) (N (o72b P) (N (o136b P) (N (o264b P) O O) (N (o392b P) O O)) (N (o200b P) (N (o328b P) O O) O)) (N (o104b P) (N (o168b P) (N (o296b P) O O) O) (N (o232b P) (N (o360b P) O O) O))) (N (o56b P) (N (o88b P) (N (o152b P) (N (o280b P) O O) (N (o408b P) O O)) (N (o216b P) (N (o344b P) O O) O)) (N (o120b P) (N (o184b P) (N (o312b P) O O) O) (N (o248b P) (N (o376b P) O O) O))))) (N (o12b P) (N (o20b P) (N (o36b P) (N (o68b P) (N (o132b P) (N (o260b P) O O) (N (o388b P) O O)) (N (o196b P) (N (o324b P) O O) O)) (N (o100b P) (N (o164b P) (N (o292b P) O O) (N (o420b P) O O)) (N (o228b P) (N (o356b P) O O) O))) (N (o52b P) (N (o84b P) (N (o148b P) (N (o276b P) O O) (N (o404b P) O O)) (N (o212b P) (N (o340b P) O O) O)) (N (o116b P) (N (o180b P) (N (o308b P) O O) O) (N (o244b P) (N (o372b P) O O) O)))) (N (o28b P) (N (o44b P) (N (o76b P) (N (o140b P) (N (o268b P) O O) (N (o396b P) O O)) (N (o204b P) (N (o332b P) O O) O)) (N (o108b P) (N (o172b P) (N (o300b P) O O) O) (N (o236b P) (N (o364b P) O O) O))) (N (o60b P) (N (o92b P) (N (o156b P) (N (o284b P) O O) (N (o412b P) O O)) (N (o220b P) (N (o348b P) O O) O)) (N (o124b P) (N (o188b P) (N (o316b P) O O) O) (N (o252b P) (N (o380b P) O O) O)))))) (N (boot_o_6 P) (N (boot_o_10 P) (N (o18b P) (N (o34b P) (N (o66b P) (N (o130b P) (N (o258b P) O O) (N (o386b P) O O)) (N (o194b P) (N (o322b P) O O) O)) (N (o98b P) (N (o162b P) (N (o290b P) O O) (N (o418b P) O O)) (N (o226b P) (N (o354b P) O O) O))) (N (o50b P) (N (o82b P) (N (o146b P) (N (o274b P) O O) (N (o402b P) O O)) (N (o210b P) (N (o338b P) O O) O)) (N (o114b P) (N (o178b P) (N (o306b P) O O) O) (N (o242b P) (N (o370b P) O O) O)))) (N (o26b P) (N (o42b P) (N (o74b P) (N (o138b P) (N (o266b P) O O) (N (o394b P) O O)) (N (o202b P) (N (o330b P) O O) O)) (N (o106b P) (N (o170b P) (N (o298b P) O O) O) (N (o234b P) (N (o362b P) O O) O))) (N (o58b P) (N (o90b P) (N (o154b P) (N (o282b P) O O) (N (o410b P) O O)) (N (o218b P) (N (o346b P) O O) O)) (N (o122b P) (N (o186b P) (N (o314b P) O O) O) (N (o250b P) (N (o378b P) O O) O))))) (N (o14a P) (N (o22b P) (N (o38b P) (N (o70b P) (N (o134b P) (N (o262b P) O O) (N (o390b P) O O)) (N (o198b P) (N (o326b P) O O) O)) (N (o102b P) (N (o166b P) (N (o294b P) O O) (N (o422b P) O O)) (N (o230b P) (N (o358b P) O O) O))) (N (o54b P) (N (o86b P) (N (o150b P) (N (o278b P) O O) (N (o406b P) O O)) (N (o214b P) (N (o342b P) O O) O)) (N (o118b P) (N (o182b P) (N (o310b P) O O) O) (N (o246b P) (N (o374b P) O O) O)))) (N (o30b P) (N (o46b P) (N (o78b P) (N (o142b P) (N (o270b P) O O) (N (o398b P) O O)) (N (o206b P) (N (o334b P) O O) O)) (N (o110b P) (N (o174b P) (N (o302b P) O O) O) (N (o238b P) (N (o366b P) O O) O))) (N (o62b P) (N (o94b P) (N (o158b P) (N (o286b P) O O) (N (o414b P) O O)) (N (o222b P) (N (o350b P) O O) O)) (N (o126b P) (N (o190b P) (N (o318b P) O O) O) (N (o254b P) (N (o382b P) O O) O))))))))
def Sb (w : World) (os : OsState) : SharedT := ⟨tb w.params, 424, (boot_heap w.params).life, #[], boot_drawn, 730, os⟩
def o3c (P : Params) : Obj := ⟨(.type "dict"), .none, (.dict #[⟨PyData.keyHash P (Z "__name__"), (.str (Z "__name__") 165), (.str (Z "heldground.runs") 1258)⟩, ⟨PyData.keyHash P (Z "__doc__"), (.str (Z "__doc__") 166), .none⟩, ⟨PyData.keyHash P (Z "__package__"), (.str (Z "__package__") 167), .none⟩, ⟨PyData.keyHash P (Z "__loader__"), (.str (Z "__loader__") 168), (.builtin "__main__.__loader__#opaque")⟩, ⟨PyData.keyHash P (Z "__spec__"), (.str (Z "__spec__") 169), .none⟩, ⟨PyData.keyHash P (Z "__annotations__"), (.str (Z "__annotations__") 170), (R 6)⟩, ⟨PyData.keyHash P (Z "__builtins__"), (.str (Z "__builtins__") 171), (R 4)⟩, ⟨PyData.keyHash P (Z "__file__"), (.str (Z "__file__") 173), (.str (Z "/claim/cut.py") 172)⟩, ⟨PyData.keyHash P (Z "__cached__"), (.str (Z "__cached__") 174), .none⟩, ⟨PyData.keyHash P (Z "_wall"), (.str (Z "_wall") 193), (R 21)⟩, ⟨PyData.keyHash P (Z "GroundError"), (.str (Z "GroundError") 213), (R 31)⟩, ⟨PyData.keyHash P (Z "InvalidRow"), (.str (Z "InvalidRow") 238), (R 51)⟩, ⟨PyData.keyHash P (Z "InvalidChooser"), (.str (Z "InvalidChooser") 263), (R 70)⟩, ⟨PyData.keyHash P (Z "InvalidHouse"), (.str (Z "InvalidHouse") 288), (R 89)⟩, ⟨PyData.keyHash P (Z "InvalidTurn"), (.str (Z "InvalidTurn") 313), (R 108)⟩, ⟨PyData.keyHash P (Z "NoRow"), (.str (Z "NoRow") 338), (R 127)⟩, ⟨PyData.keyHash P (Z "NoNote"), (.str (Z "NoNote") 363), (R 146)⟩, ⟨PyData.keyHash P (Z "Mismatch"), (.str (Z "Mismatch") 386), (R 165)⟩, ⟨PyData.keyHash P (Z "LETTERS"), (.str (Z "LETTERS") 390), (.str (Z "abcdefghijklmnopqrstuvwxyz") 389)⟩, ⟨PyData.keyHash P (Z "DIGITS"), (.str (Z "DIGITS") 392), (.str (Z "0123456789") 391)⟩, ⟨PyData.keyHash P (Z "BARRED"), (.str (Z "BARRED") 399), (R 168)⟩, ⟨PyData.keyHash P (Z "MOST_LETTERS"), (.str (Z "MOST_LETTERS") 401), (.int 4 400)⟩, ⟨PyData.keyHash P (Z "MOST_DIGITS"), (.str (Z "MOST_DIGITS") 403), (.int 6 402)⟩, ⟨PyData.keyHash P (Z "is_integer"), (.str (Z "is_integer") 410), (R 175)⟩, ⟨PyData.keyHash P (Z "is_from"), (.str (Z "is_from") 419), (R 182)⟩, ⟨PyData.keyHash P (Z "is_name"), (.str (Z "is_name") 425), (R 187)⟩, ⟨PyData.keyHash P (Z "number_of"), (.str (Z "number_of") 431), (R 192)⟩, ⟨PyData.keyHash P (Z "LAST_SLOT"), (.str (Z "LAST_SLOT") 435), (.int 2 434)⟩, ⟨PyData.keyHash P (Z "need_slot"), (.str (Z "need_slot") 442), (R 199)⟩, ⟨PyData.keyHash P (Z "need_name"), (.str (Z "need_name") 449), (R 206)⟩, ⟨PyData.keyHash P (Z "need_number"), (.str (Z "need_number") 456), (R 213)⟩, ⟨PyData.keyHash P (Z "need_test"), (.str (Z "need_test") 463), (R 220)⟩, ⟨PyData.keyHash P (Z "need_rows"), (.str (Z "need_rows") 471), (R 227)⟩, ⟨PyData.keyHash P (Z "Part"), (.str (Z "Part") 522), (R 261)⟩, ⟨PyData.keyHash P (Z "Row"), (.str (Z "Row") 545), (R 282)⟩, ⟨PyData.keyHash P (Z "Test"), (.str (Z "Test") 561), (R 294)⟩, ⟨PyData.keyHash P (Z "Whole"), (.str (Z "Whole") 588), (R 315)⟩, ⟨PyData.keyHash P (Z "From"), (.str (Z "From") 619), (R 337)⟩, ⟨PyData.keyHash P (Z "Newest"), (.str (Z "Newest") 646), (R 358)⟩, ⟨PyData.keyHash P (Z "Oldest"), (.str (Z "Oldest") 673), (R 379)⟩, ⟨PyData.keyHash P (Z "Keep"), (.str (Z "Keep") 702), (R 400)⟩, ⟨PyData.keyHash P (Z "KeepOldest"), (.str (Z "KeepOldest") 729), (R 421)⟩, ⟨PyData.keyHash P (Z "KeepNone"), (.str (Z "KeepNone") 756), (R 442)⟩, ⟨PyData.keyHash P (Z "Put"), (.str (Z "Put") 787), (R 463)⟩, ⟨PyData.keyHash P (Z "Add"), (.str (Z "Add") 818), (R 484)⟩, ⟨PyData.keyHash P (Z "Stop"), (.str (Z "Stop") 845), (R 505)⟩, ⟨PyData.keyHash P (Z "If"), (.str (Z "If") 887), (R 535)⟩, ⟨PyData.keyHash P (Z "Sure"), (.str (Z "Sure") 916), (R 556)⟩, ⟨PyData.keyHash P (Z "Missed"), (.str (Z "Missed") 945), (R 577)⟩, ⟨PyData.keyHash P (Z "Untold"), (.str (Z "Untold") 974), (R 598)⟩, ⟨PyData.keyHash P (Z "Bare"), (.str (Z "Bare") 1003), (R 619)⟩, ⟨PyData.keyHash P (Z "AnySure"), (.str (Z "AnySure") 1030), (R 640)⟩, ⟨PyData.keyHash P (Z "Holds"), (.str (Z "Holds") 1061), (R 661)⟩, ⟨PyData.keyHash P (Z "Not"), (.str (Z "Not") 1090), (R 682)⟩, ⟨PyData.keyHash P (Z "lines_of"), (.str (Z "lines_of") 1099), (R 691)⟩, ⟨PyData.keyHash P (Z "inner_rows"), (.str (Z "inner_rows") 1108), (R 698)⟩, ⟨PyData.keyHash P (Z "BARE"), (.str (Z "BARE") 1112), (.str (Z "b") 1111)⟩, ⟨PyData.keyHash P (Z "UNTOLD"), (.str (Z "UNTOLD") 1114), (.str (Z "u") 1113)⟩, ⟨PyData.keyHash P (Z "SURE"), (.str (Z "SURE") 1116), (.str (Z "s") 1115)⟩, ⟨PyData.keyHash P (Z "MISSED"), (.str (Z "MISSED") 1118), (.str (Z "m") 1117)⟩, ⟨PyData.keyHash P (Z "Moment"), (.str (Z "Moment") 1154), (R 715)⟩, ⟨PyData.keyHash P (Z "Brain"), (.str (Z "Brain") 1235), (R 769)⟩, ⟨PyData.keyHash P (Z "letter_of"), (.str (Z "letter_of") 1242), (R 780)⟩, ⟨PyData.keyHash P (Z "oldest_slot"), (.str (Z "oldest_slot") 1251), (R 787)⟩, ⟨PyData.keyHash P (Z "ground_of"), (.str (Z "ground_of") 1257), (R 792)⟩, ⟨PyData.keyHash P (Z "LOST"), (.str (Z "LOST") 1261), (.str (Z "lost") 1260)⟩, ⟨PyData.keyHash P (Z "BROKEN"), (.str (Z "BROKEN") 1263), (.str (Z "broken") 1262)⟩, ⟨PyData.keyHash P (Z "SOUND"), (.str (Z "SOUND") 1265), (.str (Z "sound") 1264)⟩, ⟨PyData.keyHash P (Z "FALSE"), (.str (Z "FALSE") 1267), (.str (Z "false") 1266)⟩, ⟨PyData.keyHash P (Z "need_room"), (.str (Z "need_room") 1275), (R 799)⟩, ⟨PyData.keyHash P (Z "is_turn"), (.str (Z "is_turn") 1282), (R 806)⟩, ⟨PyData.keyHash P (Z "Made"), (.str (Z "Made") 1320), (R 830)⟩] 72), #[]⟩
def o12c (P : Params) : Obj := ⟨.none, .none, (.fields #[(.int 1 0), (.int 0 0), (R 20), (.int 5 0), (.int 0 0), (R 27), (.int 7 0), (.int 0 0), (R 40), (.int 12 0), (.int 0 0), (R 59), (.int 17 0), (.int 0 0), (R 78), (.int 22 0), (.int 0 0), (R 97), (.int 27 0), (.int 0 0), (R 116), (.int 32 0), (.int 0 0), (R 135), (.int 37 0), (.int 0 0), (R 154), (.int 47 0), (.int 0 0), (R 174), (.int 49 0), (.int 0 0), (R 181), (.int 51 0), (.int 0 0), (R 186), (.int 55 0), (.int 0 0), (R 191), (.int 61 0), (.int 0 0), (R 198), (.int 64 0), (.int 0 0), (R 205), (.int 67 0), (.int 0 0), (R 212), (.int 70 0), (.int 0 0), (R 219), (.int 73 0), (.int 0 0), (R 226), (.int 80 0), (.int 0 0), (R 233), (.int 93 0), (.int 0 0), (R 271), (.int 97 0), (.int 0 0), (R 290), (.int 99 0), (.int 0 0), (R 303), (.int 104 0), (.int 0 0), (R 324), (.int 114 0), (.int 0 0), (R 346), (.int 119 0), (.int 0 0), (R 367), (.int 124 0), (.int 0 0), (R 388), (.int 131 0), (.int 0 0), (R 409), (.int 136 0), (.int 0 0), (R 430), (.int 141 0), (.int 0 0), (R 451), (.int 150 0), (.int 0 0), (R 472), (.int 159 0), (.int 0 0), (R 493), (.int 164 0), (.int 0 0), (R 514), (.int 178 0), (.int 0 0), (R 544), (.int 185 0), (.int 0 0), (R 565), (.int 192 0), (.int 0 0), (R 586), (.int 199 0), (.int 0 0), (R 607), (.int 206 0), (.int 0 0), (R 628), (.int 211 0), (.int 0 0), (R 649), (.int 220 0), (.int 0 0), (R 670), (.int 227 0), (.int 0 0), (R 690), (.int 232 0), (.int 0 0), (R 697), (.int 242 0), (.int 0 0), (R 704), (.int 251 0), (.int 0 0), (R 725), (.int 299 0), (.int 0 0), (R 779), (.int 305 0), (.int 0 0), (R 786), (.int 310 0), (.int 0 0), (R 791), (.int 325 0), (.int 0 0), (R 798), (.int 328 0), (.int 0 0), (R 805), (.int 332 0), (.int 0 0), (R 812)]), #[]⟩
def o282c (P : Params) : Obj := ⟨(.type "type"), .none, (.cls ⟨(Z "Row"), [(R 261)], [(R 282), (R 261), (.type "object")], 281, (Z "Row"), true, [], [(R 315), (R 337), (R 358), (R 379), (R 400), (R 421), (R 442), (R 463), (R 484), (R 505), (R 535)], false, .none, false⟩), #[(.some (R 266)), .none, (.some (.str (Z "Row") 523)), (.some (.str (Z "Row") 531)), (.some (.builtin "object.__new__")), (.some (.bool true))]⟩
def o294c (P : Params) : Obj := ⟨(.type "type"), .none, (.cls ⟨(Z "Test"), [(R 261)], [(R 294), (R 261), (.type "object")], 293, (Z "Test"), true, [], [(R 556), (R 577), (R 598), (R 619), (R 640), (R 661), (R 682)], false, .none, false⟩), #[(.some (R 285)), .none, (.some (.str (Z "Test") 546)), (.some (.str (Z "Test") 554)), (.some (.builtin "object.__new__")), (.some (.bool true))]⟩
def o424c (P : Params) : Obj := ⟨(.type "tuple"), .none, (.seq #[(R 282)] 0), #[]⟩
def o425c (P : Params) : Obj := ⟨(.type "builtin_function_or_method"), .none, (.fields #[(.builtin "type.__prepare__"), (.type "type")]), #[]⟩
def o426c (P : Params) : Obj := ⟨(.type "dict"), .none, (.dict #[⟨PyData.keyHash P (Z "__module__"), (.str (Z "__module__") 737), (.str (Z "heldground.rows") 432)⟩, ⟨PyData.keyHash P (Z "__qualname__"), (.str (Z "__qualname__") 739), (.str (Z "KeepNone") 738)⟩, ⟨PyData.keyHash P (Z "__firstlineno__"), (.str (Z "__firstlineno__") 741), (.int 136 740)⟩, ⟨PyData.keyHash P (Z "SORT"), (.str (Z "SORT") 743), (.str (Z "keep none") 742)⟩, ⟨PyData.keyHash P (Z "__init__"), (.str (Z "__init__") 751), (R 439)⟩, ⟨PyData.keyHash P (Z "__static_attributes__"), (.str (Z "__static_attributes__") 752), (R 440)⟩, ⟨PyData.keyHash P (Z "__classcell__"), (.str (Z "__classcell__") 753), (R 427)⟩] 7), #[]⟩
def o427c (P : Params) : Obj := ⟨(.type "cell"), .none, (.cell (.some (R 442))), #[]⟩
def o428c (P : Params) : Obj := ⟨(.type "tuple"), .none, (.seq #[] 0), #[]⟩
def o429c (P : Params) : Obj := ⟨.none, .none, (.fields #[(.int 139 0), (.int 4 0), (R 438)]), #[]⟩
def o430c (P : Params) : Obj := ⟨(.type "code"), .none, (.fields #[(.str (Z "KeepNone") 732), (.str (Z "KeepNone") 733), (.str (Z "/claim/cut.py") 734), (.int 136 0), (.int 0 0), (.int 0 0), (.int 0 0), (.int 0 0), (R 428), (.bool false), (.int 181 0), (R 429), .none, .none, .none, .none, (.int 735 0), (.int 136 0), (.str (Z "/claim/cut.py") 736)]), #[]⟩
def o431c (P : Params) : Obj := ⟨(.type "frame"), .none, .plain, #[(.some (R 430)), (.some (R 3)), (.some (R 426)), .none, (.some (.str (Z "heldground.rows") 432)), .none, (.some (R 0))]⟩
def o432c (P : Params) : Obj := ⟨(.type "tuple"), .none, (.seq #[(R 427)] 0), #[]⟩
def o433c (P : Params) : Obj := ⟨(.type "tuple"), .none, (.seq #[(.str (Z "__class__") 747)] 0), #[]⟩
def o434c (P : Params) : Obj := ⟨.none, .none, (.fields #[]), #[]⟩
def o435c (P : Params) : Obj := ⟨(.type "tuple"), .none, (.seq #[(.str (Z "self") 748)] 0), #[]⟩
def o436c (P : Params) : Obj := ⟨(.type "tuple"), .none, (.seq #[] 0), #[]⟩
def o437c (P : Params) : Obj := ⟨.none, .none, (.func ⟨(Z "__init__"), (Z "KeepNone.__init__"), dA (ic (tp 36) 1), .stmts (dB (ic (tp 36) 1)), dS (ic (tp 36) 1), 0, [], .none, .none, .none, .none, .none, .none, .none, 0⟩), #[]⟩
def o438c (P : Params) : Obj := ⟨(.type "code"), .none, (.fields #[(.str (Z "__init__") 744), (.str (Z "KeepNone.__init__") 745), (.str (Z "/claim/cut.py") 746), (.int 139 0), (.int 1 0), (.int 0 0), (.int 0 0), (.int 3 0), (R 433), (.bool true), (.int 181 0), (R 434), .none, (R 435), (R 436), (R 437), (.int 749 0), (.int 139 0), (.str (Z "/claim/cut.py") 750)]), #[]⟩
def o439c (P : Params) : Obj := ⟨(.type "function"), .none, (.func ⟨(Z "__init__"), (Z "KeepNone.__init__"), dA (ic (tp 36) 1), .stmts (dB (ic (tp 36) 1)), dS (ic (tp 36) 1), 3, [((Z "__class__"), 427)], .none, .none, .none, (.str (Z "heldground.rows") 432), .none, (R 438), (R 432), 0⟩), #[]⟩
def o440c (P : Params) : Obj := ⟨(.type "tuple"), .none, (.seq #[] 0), #[]⟩
def o441c (P : Params) : Obj := ⟨(.type "dict"), .none, (.dict #[⟨PyData.keyHash P (Z "__module__"), (.str (Z "__module__") 737), (.str (Z "heldground.rows") 432)⟩, ⟨PyData.keyHash P (Z "__firstlineno__"), (.str (Z "__firstlineno__") 741), (.int 136 740)⟩, ⟨PyData.keyHash P (Z "SORT"), (.str (Z "SORT") 743), (.str (Z "keep none") 742)⟩, ⟨PyData.keyHash P (Z "__init__"), (.str (Z "__init__") 751), (R 439)⟩, ⟨PyData.keyHash P (Z "__static_attributes__"), (.str (Z "__static_attributes__") 752), (R 440)⟩, ⟨PyData.keyHash P (Z "__doc__"), (.str (Z "__doc__") 754), .none⟩] 3), #[]⟩
def o442c (P : Params) : Obj := ⟨(.type "type"), .none, (.cls ⟨(Z "KeepNone"), [(R 282)], [(R 442), (R 282), (R 261), (.type "object")], 441, (Z "KeepNone"), true, [], [], false, .none, false⟩), #[(.some (R 424)), .none, (.some (.str (Z "KeepNone") 730)), (.some (.str (Z "KeepNone") 738)), (.some (.builtin "object.__new__")), (.some (.bool true))]⟩
def o443c (P : Params) : Obj := ⟨(.type "super"), .none, (.fields #[(R 442), (R 442), (R 442)]), #[]⟩
def o444c (P : Params) : Obj := ⟨(.type "builtin_function_or_method"), .none, (.fields #[(.builtin "object.__init_subclass__"), (R 442)]), #[]⟩
def o445c (P : Params) : Obj := ⟨(.type "tuple"), .none, (.seq #[(R 282)] 0), #[]⟩
def o446c (P : Params) : Obj := ⟨(.type "builtin_function_or_method"), .none, (.fields #[(.builtin "type.__prepare__"), (.type "type")]), #[]⟩
def o447c (P : Params) : Obj := ⟨(.type "dict"), .none, (.dict #[⟨PyData.keyHash P (Z "__module__"), (.str (Z "__module__") 764), (.str (Z "heldground.rows") 432)⟩, ⟨PyData.keyHash P (Z "__qualname__"), (.str (Z "__qualname__") 766), (.str (Z "Put") 765)⟩, ⟨PyData.keyHash P (Z "__firstlineno__"), (.str (Z "__firstlineno__") 768), (.int 141 767)⟩, ⟨PyData.keyHash P (Z "SORT"), (.str (Z "SORT") 770), (.str (Z "put") 769)⟩, ⟨PyData.keyHash P (Z "__init__"), (.str (Z "__init__") 780), (R 460)⟩, ⟨PyData.keyHash P (Z "__static_attributes__"), (.str (Z "__static_attributes__") 783), (R 461)⟩, ⟨PyData.keyHash P (Z "__classcell__"), (.str (Z "__classcell__") 784), (R 448)⟩] 7), #[]⟩
def o448c (P : Params) : Obj := ⟨(.type "cell"), .none, (.cell (.some (R 463))), #[]⟩
def o449c (P : Params) : Obj := ⟨(.type "tuple"), .none, (.seq #[] 0), #[]⟩
def o450c (P : Params) : Obj := ⟨.none, .none, (.fields #[(.int 144 0), (.int 4 0), (R 459)]), #[]⟩
def o451c (P : Params) : Obj := ⟨(.type "code"), .none, (.fields #[(.str (Z "Put") 759), (.str (Z "Put") 760), (.str (Z "/claim/cut.py") 761), (.int 141 0), (.int 0 0), (.int 0 0), (.int 0 0), (.int 0 0), (R 449), (.bool false), (.int 181 0), (R 450), .none, .none, .none, .none, (.int 762 0), (.int 141 0), (.str (Z "/claim/cut.py") 763)]), #[]⟩
def o452c (P : Params) : Obj := ⟨(.type "frame"), .none, .plain, #[(.some (R 451)), (.some (R 3)), (.some (R 447)), .none, (.some (.str (Z "heldground.rows") 432)), .none, (.some (R 0))]⟩
def o453c (P : Params) : Obj := ⟨(.type "tuple"), .none, (.seq #[(R 448)] 0), #[]⟩
def o454c (P : Params) : Obj := ⟨(.type "tuple"), .none, (.seq #[(.str (Z "__class__") 774)] 0), #[]⟩
def o455c (P : Params) : Obj := ⟨.none, .none, (.fields #[]), #[]⟩
def o456c (P : Params) : Obj := ⟨(.type "tuple"), .none, (.seq #[(.str (Z "self") 775), (.str (Z "note") 776), (.str (Z "number") 777)] 0), #[]⟩
def o457c (P : Params) : Obj := ⟨(.type "tuple"), .none, (.seq #[] 0), #[]⟩
def o458c (P : Params) : Obj := ⟨.none, .none, (.func ⟨(Z "__init__"), (Z "Put.__init__"), dA (ic (tp 37) 1), .stmts (dB (ic (tp 37) 1)), dS (ic (tp 37) 1), 0, [], .none, .none, .none, .none, .none, .none, .none, 0⟩), #[]⟩
def o459c (P : Params) : Obj := ⟨(.type "code"), .none, (.fields #[(.str (Z "__init__") 771), (.str (Z "Put.__init__") 772), (.str (Z "/claim/cut.py") 773), (.int 144 0), (.int 3 0), (.int 0 0), (.int 0 0), (.int 3 0), (R 454), (.bool true), (.int 181 0), (R 455), .none, (R 456), (R 457), (R 458), (.int 778 0), (.int 144 0), (.str (Z "/claim/cut.py") 779)]), #[]⟩
def o460c (P : Params) : Obj := ⟨(.type "function"), .none, (.func ⟨(Z "__init__"), (Z "Put.__init__"), dA (ic (tp 37) 1), .stmts (dB (ic (tp 37) 1)), dS (ic (tp 37) 1), 3, [((Z "__class__"), 448)], .none, .none, .none, (.str (Z "heldground.rows") 432), .none, (R 459), (R 453), 0⟩), #[]⟩
def o461c (P : Params) : Obj := ⟨(.type "tuple"), .none, (.seq #[(.str (Z "note") 781), (.str (Z "number") 782)] 0), #[]⟩
def o462c (P : Params) : Obj := ⟨(.type "dict"), .none, (.dict #[⟨PyData.keyHash P (Z "__module__"), (.str (Z "__module__") 764), (.str (Z "heldground.rows") 432)⟩, ⟨PyData.keyHash P (Z "__firstlineno__"), (.str (Z "__firstlineno__") 768), (.int 141 767)⟩, ⟨PyData.keyHash P (Z "SORT"), (.str (Z "SORT") 770), (.str (Z "put") 769)⟩, ⟨PyData.keyHash P (Z "__init__"), (.str (Z "__init__") 780), (R 460)⟩, ⟨PyData.keyHash P (Z "__static_attributes__"), (.str (Z "__static_attributes__") 783), (R 461)⟩, ⟨PyData.keyHash P (Z "__doc__"), (.str (Z "__doc__") 785), .none⟩] 3), #[]⟩
def o463c (P : Params) : Obj := ⟨(.type "type"), .none, (.cls ⟨(Z "Put"), [(R 282)], [(R 463), (R 282), (R 261), (.type "object")], 462, (Z "Put"), true, [], [], false, .none, false⟩), #[(.some (R 445)), .none, (.some (.str (Z "Put") 757)), (.some (.str (Z "Put") 765)), (.some (.builtin "object.__new__")), (.some (.bool true))]⟩
def o464c (P : Params) : Obj := ⟨(.type "super"), .none, (.fields #[(R 463), (R 463), (R 463)]), #[]⟩
def o465c (P : Params) : Obj := ⟨(.type "builtin_function_or_method"), .none, (.fields #[(.builtin "object.__init_subclass__"), (R 463)]), #[]⟩
def o466c (P : Params) : Obj := ⟨(.type "tuple"), .none, (.seq #[(R 282)] 0), #[]⟩
def o467c (P : Params) : Obj := ⟨(.type "builtin_function_or_method"), .none, (.fields #[(.builtin "type.__prepare__"), (.type "type")]), #[]⟩
def o468c (P : Params) : Obj := ⟨(.type "dict"), .none, (.dict #[⟨PyData.keyHash P (Z "__module__"), (.str (Z "__module__") 795), (.str (Z "heldground.rows") 432)⟩, ⟨PyData.keyHash P (Z "__qualname__"), (.str (Z "__qualname__") 797), (.str (Z "Add") 796)⟩, ⟨PyData.keyHash P (Z "__firstlineno__"), (.str (Z "__firstlineno__") 799), (.int 150 798)⟩, ⟨PyData.keyHash P (Z "SORT"), (.str (Z "SORT") 801), (.str (Z "add") 800)⟩, ⟨PyData.keyHash P (Z "__init__"), (.str (Z "__init__") 811), (R 481)⟩, ⟨PyData.keyHash P (Z "__static_attributes__"), (.str (Z "__static_attributes__") 814), (R 482)⟩, ⟨PyData.keyHash P (Z "__classcell__"), (.str (Z "__classcell__") 815), (R 469)⟩] 7), #[]⟩
def o469c (P : Params) : Obj := ⟨(.type "cell"), .none, (.cell (.some (R 484))), #[]⟩
def o470c (P : Params) : Obj := ⟨(.type "tuple"), .none, (.seq #[] 0), #[]⟩
def o471c (P : Params) : Obj := ⟨.none, .none, (.fields #[(.int 153 0), (.int 4 0), (R 480)]), #[]⟩
def o472c (P : Params) : Obj := ⟨(.type "code"), .none, (.fields #[(.str (Z "Add") 790), (.str (Z "Add") 791), (.str (Z "/claim/cut.py") 792), (.int 150 0), (.int 0 0), (.int 0 0), (.int 0 0), (.int 0 0), (R 470), (.bool false), (.int 181 0), (R 471), .none, .none, .none, .none, (.int 793 0), (.int 150 0), (.str (Z "/claim/cut.py") 794)]), #[]⟩
def o473c (P : Params) : Obj := ⟨(.type "frame"), .none, .plain, #[(.some (R 472)), (.some (R 3)), (.some (R 468)), .none, (.some (.str (Z "heldground.rows") 432)), .none, (.some (R 0))]⟩
def o474c (P : Params) : Obj := ⟨(.type "tuple"), .none, (.seq #[(R 469)] 0), #[]⟩
def o475c (P : Params) : Obj := ⟨(.type "tuple"), .none, (.seq #[(.str (Z "__class__") 805)] 0), #[]⟩
def o476c (P : Params) : Obj := ⟨.none, .none, (.fields #[]), #[]⟩
def o477c (P : Params) : Obj := ⟨(.type "tuple"), .none, (.seq #[(.str (Z "self") 806), (.str (Z "note") 807), (.str (Z "number") 808)] 0), #[]⟩
def o478c (P : Params) : Obj := ⟨(.type "tuple"), .none, (.seq #[] 0), #[]⟩
def o479c (P : Params) : Obj := ⟨.none, .none, (.func ⟨(Z "__init__"), (Z "Add.__init__"), dA (ic (tp 38) 1), .stmts (dB (ic (tp 38) 1)), dS (ic (tp 38) 1), 0, [], .none, .none, .none, .none, .none, .none, .none, 0⟩), #[]⟩
def o480c (P : Params) : Obj := ⟨(.type "code"), .none, (.fields #[(.str (Z "__init__") 802), (.str (Z "Add.__init__") 803), (.str (Z "/claim/cut.py") 804), (.int 153 0), (.int 3 0), (.int 0 0), (.int 0 0), (.int 3 0), (R 475), (.bool true), (.int 181 0), (R 476), .none, (R 477), (R 478), (R 479), (.int 809 0), (.int 153 0), (.str (Z "/claim/cut.py") 810)]), #[]⟩
def o481c (P : Params) : Obj := ⟨(.type "function"), .none, (.func ⟨(Z "__init__"), (Z "Add.__init__"), dA (ic (tp 38) 1), .stmts (dB (ic (tp 38) 1)), dS (ic (tp 38) 1), 3, [((Z "__class__"), 469)], .none, .none, .none, (.str (Z "heldground.rows") 432), .none, (R 480), (R 474), 0⟩), #[]⟩
def o482c (P : Params) : Obj := ⟨(.type "tuple"), .none, (.seq #[(.str (Z "note") 812), (.str (Z "number") 813)] 0), #[]⟩
def o483c (P : Params) : Obj := ⟨(.type "dict"), .none, (.dict #[⟨PyData.keyHash P (Z "__module__"), (.str (Z "__module__") 795), (.str (Z "heldground.rows") 432)⟩, ⟨PyData.keyHash P (Z "__firstlineno__"), (.str (Z "__firstlineno__") 799), (.int 150 798)⟩, ⟨PyData.keyHash P (Z "SORT"), (.str (Z "SORT") 801), (.str (Z "add") 800)⟩, ⟨PyData.keyHash P (Z "__init__"), (.str (Z "__init__") 811), (R 481)⟩, ⟨PyData.keyHash P (Z "__static_attributes__"), (.str (Z "__static_attributes__") 814), (R 482)⟩, ⟨PyData.keyHash P (Z "__doc__"), (.str (Z "__doc__") 816), .none⟩] 3), #[]⟩
def o484c (P : Params) : Obj := ⟨(.type "type"), .none, (.cls ⟨(Z "Add"), [(R 282)], [(R 484), (R 282), (R 261), (.type "object")], 483, (Z "Add"), true, [], [], false, .none, false⟩), #[(.some (R 466)), .none, (.some (.str (Z "Add") 788)), (.some (.str (Z "Add") 796)), (.some (.builtin "object.__new__")), (.some (.bool true))]⟩
def o485c (P : Params) : Obj := ⟨(.type "super"), .none, (.fields #[(R 484), (R 484), (R 484)]), #[]⟩
def o486c (P : Params) : Obj := ⟨(.type "builtin_function_or_method"), .none, (.fields #[(.builtin "object.__init_subclass__"), (R 484)]), #[]⟩
def o487c (P : Params) : Obj := ⟨(.type "tuple"), .none, (.seq #[(R 282)] 0), #[]⟩
def o488c (P : Params) : Obj := ⟨(.type "builtin_function_or_method"), .none, (.fields #[(.builtin "type.__prepare__"), (.type "type")]), #[]⟩
def o489c (P : Params) : Obj := ⟨(.type "dict"), .none, (.dict #[⟨PyData.keyHash P (Z "__module__"), (.str (Z "__module__") 826), (.str (Z "heldground.rows") 432)⟩, ⟨PyData.keyHash P (Z "__qualname__"), (.str (Z "__qualname__") 828), (.str (Z "Stop") 827)⟩, ⟨PyData.keyHash P (Z "__firstlineno__"), (.str (Z "__firstlineno__") 830), (.int 159 829)⟩, ⟨PyData.keyHash P (Z "SORT"), (.str (Z "SORT") 832), (.str (Z "stop") 831)⟩, ⟨PyData.keyHash P (Z "__init__"), (.str (Z "__init__") 840), (R 502)⟩, ⟨PyData.keyHash P (Z "__static_attributes__"), (.str (Z "__static_attributes__") 841), (R 503)⟩, ⟨PyData.keyHash P (Z "__classcell__"), (.str (Z "__classcell__") 842), (R 490)⟩] 7), #[]⟩
def o490c (P : Params) : Obj := ⟨(.type "cell"), .none, (.cell (.some (R 505))), #[]⟩
def o491c (P : Params) : Obj := ⟨(.type "tuple"), .none, (.seq #[] 0), #[]⟩
def o492c (P : Params) : Obj := ⟨.none, .none, (.fields #[(.int 162 0), (.int 4 0), (R 501)]), #[]⟩
def o493c (P : Params) : Obj := ⟨(.type "code"), .none, (.fields #[(.str (Z "Stop") 821), (.str (Z "Stop") 822), (.str (Z "/claim/cut.py") 823), (.int 159 0), (.int 0 0), (.int 0 0), (.int 0 0), (.int 0 0), (R 491), (.bool false), (.int 181 0), (R 492), .none, .none, .none, .none, (.int 824 0), (.int 159 0), (.str (Z "/claim/cut.py") 825)]), #[]⟩
def o494c (P : Params) : Obj := ⟨(.type "frame"), .none, .plain, #[(.some (R 493)), (.some (R 3)), (.some (R 489)), .none, (.some (.str (Z "heldground.rows") 432)), .none, (.some (R 0))]⟩
def o495c (P : Params) : Obj := ⟨(.type "tuple"), .none, (.seq #[(R 490)] 0), #[]⟩
def o496c (P : Params) : Obj := ⟨(.type "tuple"), .none, (.seq #[(.str (Z "__class__") 836)] 0), #[]⟩
def o497c (P : Params) : Obj := ⟨.none, .none, (.fields #[]), #[]⟩
def o498c (P : Params) : Obj := ⟨(.type "tuple"), .none, (.seq #[(.str (Z "self") 837)] 0), #[]⟩
def o499c (P : Params) : Obj := ⟨(.type "tuple"), .none, (.seq #[] 0), #[]⟩
def o500c (P : Params) : Obj := ⟨.none, .none, (.func ⟨(Z "__init__"), (Z "Stop.__init__"), dA (ic (tp 39) 1), .stmts (dB (ic (tp 39) 1)), dS (ic (tp 39) 1), 0, [], .none, .none, .none, .none, .none, .none, .none, 0⟩), #[]⟩
def o501c (P : Params) : Obj := ⟨(.type "code"), .none, (.fields #[(.str (Z "__init__") 833), (.str (Z "Stop.__init__") 834), (.str (Z "/claim/cut.py") 835), (.int 162 0), (.int 1 0), (.int 0 0), (.int 0 0), (.int 3 0), (R 496), (.bool true), (.int 181 0), (R 497), .none, (R 498), (R 499), (R 500), (.int 838 0), (.int 162 0), (.str (Z "/claim/cut.py") 839)]), #[]⟩
def o502c (P : Params) : Obj := ⟨(.type "function"), .none, (.func ⟨(Z "__init__"), (Z "Stop.__init__"), dA (ic (tp 39) 1), .stmts (dB (ic (tp 39) 1)), dS (ic (tp 39) 1), 3, [((Z "__class__"), 490)], .none, .none, .none, (.str (Z "heldground.rows") 432), .none, (R 501), (R 495), 0⟩), #[]⟩
def o503c (P : Params) : Obj := ⟨(.type "tuple"), .none, (.seq #[] 0), #[]⟩
def o504c (P : Params) : Obj := ⟨(.type "dict"), .none, (.dict #[⟨PyData.keyHash P (Z "__module__"), (.str (Z "__module__") 826), (.str (Z "heldground.rows") 432)⟩, ⟨PyData.keyHash P (Z "__firstlineno__"), (.str (Z "__firstlineno__") 830), (.int 159 829)⟩, ⟨PyData.keyHash P (Z "SORT"), (.str (Z "SORT") 832), (.str (Z "stop") 831)⟩, ⟨PyData.keyHash P (Z "__init__"), (.str (Z "__init__") 840), (R 502)⟩, ⟨PyData.keyHash P (Z "__static_attributes__"), (.str (Z "__static_attributes__") 841), (R 503)⟩, ⟨PyData.keyHash P (Z "__doc__"), (.str (Z "__doc__") 843), .none⟩] 3), #[]⟩
def o505c (P : Params) : Obj := ⟨(.type "type"), .none, (.cls ⟨(Z "Stop"), [(R 282)], [(R 505), (R 282), (R 261), (.type "object")], 504, (Z "Stop"), true, [], [], false, .none, false⟩), #[(.some (R 487)), .none, (.some (.str (Z "Stop") 819)), (.some (.str (Z "Stop") 827)), (.some (.builtin "object.__new__")), (.some (.bool true))]⟩
def o506c (P : Params) : Obj := ⟨(.type "super"), .none, (.fields #[(R 505), (R 505), (R 505)]), #[]⟩
def o507c (P : Params) : Obj := ⟨(.type "builtin_function_or_method"), .none, (.fields #[(.builtin "object.__init_subclass__"), (R 505)]), #[]⟩
def o508c (P : Params) : Obj := ⟨(.type "tuple"), .none, (.seq #[(R 282)] 0), #[]⟩
def o509c (P : Params) : Obj := ⟨(.type "builtin_function_or_method"), .none, (.fields #[(.builtin "type.__prepare__"), (.type "type")]), #[]⟩
def o510c (P : Params) : Obj := ⟨(.type "dict"), .none, (.dict #[⟨PyData.keyHash P (Z "__module__"), (.str (Z "__module__") 853), (.str (Z "heldground.rows") 432)⟩, ⟨PyData.keyHash P (Z "__qualname__"), (.str (Z "__qualname__") 855), (.str (Z "If") 854)⟩, ⟨PyData.keyHash P (Z "__firstlineno__"), (.str (Z "__firstlineno__") 857), (.int 164 856)⟩, ⟨PyData.keyHash P (Z "SORT"), (.str (Z "SORT") 859), (.str (Z "if") 858)⟩, ⟨PyData.keyHash P (Z "__init__"), (.str (Z "__init__") 872), (R 525)⟩, ⟨PyData.keyHash P (Z "inner"), (.str (Z "inner") 879), (R 532)⟩, ⟨PyData.keyHash P (Z "__static_attributes__"), (.str (Z "__static_attributes__") 883), (R 533)⟩, ⟨PyData.keyHash P (Z "__classcell__"), (.str (Z "__classcell__") 884), (R 511)⟩] 8), #[]⟩
def o511c (P : Params) : Obj := ⟨(.type "cell"), .none, (.cell (.some (R 535))), #[]⟩
def o512c (P : Params) : Obj := ⟨(.type "tuple"), .none, (.seq #[] 0), #[]⟩
def o513c (P : Params) : Obj := ⟨.none, .none, (.fields #[(.int 167 0), (.int 4 0), (R 524), (.int 176 0), (.int 4 0), (R 531)]), #[]⟩
def o514c (P : Params) : Obj := ⟨(.type "code"), .none, (.fields #[(.str (Z "If") 848), (.str (Z "If") 849), (.str (Z "/claim/cut.py") 850), (.int 164 0), (.int 0 0), (.int 0 0), (.int 0 0), (.int 0 0), (R 512), (.bool false), (.int 181 0), (R 513), .none, .none, .none, .none, (.int 851 0), (.int 164 0), (.str (Z "/claim/cut.py") 852)]), #[]⟩
def o515c (P : Params) : Obj := ⟨(.type "frame"), .none, .plain, #[(.some (R 514)), (.some (R 3)), (.some (R 510)), .none, (.some (.str (Z "heldground.rows") 432)), .none, (.some (R 0))]⟩
def o516c (P : Params) : Obj := ⟨(.type "tuple"), .none, (.seq #[] 0), #[]⟩
def o517c (P : Params) : Obj := ⟨(.type "tuple"), .none, (.seq #[(R 516)] 0), #[]⟩
def o518c (P : Params) : Obj := ⟨(.type "tuple"), .none, (.seq #[(R 511)] 0), #[]⟩
def o519c (P : Params) : Obj := ⟨(.type "tuple"), .none, (.seq #[(.str (Z "__class__") 863)] 0), #[]⟩
def o520c (P : Params) : Obj := ⟨.none, .none, (.fields #[]), #[]⟩
def o521c (P : Params) : Obj := ⟨(.type "tuple"), .none, (.seq #[(.str (Z "self") 864), (.str (Z "test") 865), (.str (Z "rows") 866), (.str (Z "others") 867), (.str (Z "behind") 868), (.str (Z "lines") 869)] 0), #[]⟩
def o522c (P : Params) : Obj := ⟨(.type "tuple"), .none, (.seq #[] 0), #[]⟩
def o523c (P : Params) : Obj := ⟨.none, .none, (.func ⟨(Z "__init__"), (Z "If.__init__"), dA (ic (tp 40) 1), .stmts (dB (ic (tp 40) 1)), dS (ic (tp 40) 1), 0, [], .none, .none, .none, .none, .none, .none, .none, 0⟩), #[]⟩
def o524c (P : Params) : Obj := ⟨(.type "code"), .none, (.fields #[(.str (Z "__init__") 860), (.str (Z "If.__init__") 861), (.str (Z "/claim/cut.py") 862), (.int 167 0), (.int 4 0), (.int 0 0), (.int 0 0), (.int 3 0), (R 519), (.bool true), (.int 181 0), (R 520), .none, (R 521), (R 522), (R 523), (.int 870 0), (.int 167 0), (.str (Z "/claim/cut.py") 871)]), #[]⟩
def o525c (P : Params) : Obj := ⟨(.type "function"), .none, (.func ⟨(Z "__init__"), (Z "If.__init__"), dA (ic (tp 40) 1), .stmts (dB (ic (tp 40) 1)), dS (ic (tp 40) 1), 3, [((Z "__class__"), 511)], (R 517), .none, .none, (.str (Z "heldground.rows") 432), .none, (R 524), (R 518), 0⟩), #[]⟩
def o526c (P : Params) : Obj := ⟨(.type "tuple"), .none, (.seq #[] 0), #[]⟩
def o527c (P : Params) : Obj := ⟨.none, .none, (.fields #[]), #[]⟩
def o528c (P : Params) : Obj := ⟨(.type "tuple"), .none, (.seq #[(.str (Z "self") 876)] 0), #[]⟩
def o529c (P : Params) : Obj := ⟨(.type "tuple"), .none, (.seq #[] 0), #[]⟩
def o530c (P : Params) : Obj := ⟨.none, .none, (.func ⟨(Z "inner"), (Z "If.inner"), dA (ic (tp 40) 2), .stmts (dB (ic (tp 40) 2)), dS (ic (tp 40) 2), 0, [], .none, .none, .none, .none, .none, .none, .none, 0⟩), #[]⟩
def o531c (P : Params) : Obj := ⟨(.type "code"), .none, (.fields #[(.str (Z "inner") 873), (.str (Z "If.inner") 874), (.str (Z "/claim/cut.py") 875), (.int 176 0), (.int 1 0), (.int 0 0), (.int 0 0), (.int 3 0), (R 526), (.bool true), (.int 181 0), (R 527), .none, (R 528), (R 529), (R 530), (.int 877 0), (.int 176 0), (.str (Z "/claim/cut.py") 878)]), #[]⟩
def o532c (P : Params) : Obj := ⟨(.type "function"), .none, (.func ⟨(Z "inner"), (Z "If.inner"), dA (ic (tp 40) 2), .stmts (dB (ic (tp 40) 2)), dS (ic (tp 40) 2), 3, [], .none, .none, .none, (.str (Z "heldground.rows") 432), .none, (R 531), .none, 0⟩), #[]⟩
def o533c (P : Params) : Obj := ⟨(.type "tuple"), .none, (.seq #[(.str (Z "others") 880), (.str (Z "rows") 881), (.str (Z "test") 882)] 0), #[]⟩
def o534c (P : Params) : Obj := ⟨(.type "dict"), .none, (.dict #[⟨PyData.keyHash P (Z "__module__"), (.str (Z "__module__") 853), (.str (Z "heldground.rows") 432)⟩, ⟨PyData.keyHash P (Z "__firstlineno__"), (.str (Z "__firstlineno__") 857), (.int 164 856)⟩, ⟨PyData.keyHash P (Z "SORT"), (.str (Z "SORT") 859), (.str (Z "if") 858)⟩, ⟨PyData.keyHash P (Z "__init__"), (.str (Z "__init__") 872), (R 525)⟩, ⟨PyData.keyHash P (Z "inner"), (.str (Z "inner") 879), (R 532)⟩, ⟨PyData.keyHash P (Z "__static_attributes__"), (.str (Z "__static_attributes__") 883), (R 533)⟩, ⟨PyData.keyHash P (Z "__doc__"), (.str (Z "__doc__") 885), .none⟩] 3), #[]⟩
def o535c (P : Params) : Obj := ⟨(.type "type"), .none, (.cls ⟨(Z "If"), [(R 282)], [(R 535), (R 282), (R 261), (.type "object")], 534, (Z "If"), true, [], [], false, .none, false⟩), #[(.some (R 508)), .none, (.some (.str (Z "If") 846)), (.some (.str (Z "If") 854)), (.some (.builtin "object.__new__")), (.some (.bool true))]⟩
def o536c (P : Params) : Obj := ⟨(.type "super"), .none, (.fields #[(R 535), (R 535), (R 535)]), #[]⟩
def o537c (P : Params) : Obj := ⟨(.type "builtin_function_or_method"), .none, (.fields #[(.builtin "object.__init_subclass__"), (R 535)]), #[]⟩
def o538c (P : Params) : Obj := ⟨(.type "tuple"), .none, (.seq #[(R 294)] 0), #[]⟩
def o539c (P : Params) : Obj := ⟨(.type "builtin_function_or_method"), .none, (.fields #[(.builtin "type.__prepare__"), (.type "type")]), #[]⟩
def o540c (P : Params) : Obj := ⟨(.type "dict"), .none, (.dict #[⟨PyData.keyHash P (Z "__module__"), (.str (Z "__module__") 895), (.str (Z "heldground.rows") 432)⟩, ⟨PyData.keyHash P (Z "__qualname__"), (.str (Z "__qualname__") 897), (.str (Z "Sure") 896)⟩, ⟨PyData.keyHash P (Z "__firstlineno__"), (.str (Z "__firstlineno__") 899), (.int 178 898)⟩, ⟨PyData.keyHash P (Z "SORT"), (.str (Z "SORT") 901), (.str (Z "sure") 900)⟩, ⟨PyData.keyHash P (Z "__init__"), (.str (Z "__init__") 910), (R 553)⟩, ⟨PyData.keyHash P (Z "__static_attributes__"), (.str (Z "__static_attributes__") 912), (R 554)⟩, ⟨PyData.keyHash P (Z "__classcell__"), (.str (Z "__classcell__") 913), (R 541)⟩] 7), #[]⟩
def o541c (P : Params) : Obj := ⟨(.type "cell"), .none, (.cell (.some (R 556))), #[]⟩
def o542c (P : Params) : Obj := ⟨(.type "tuple"), .none, (.seq #[] 0), #[]⟩
def o543c (P : Params) : Obj := ⟨.none, .none, (.fields #[(.int 181 0), (.int 4 0), (R 552)]), #[]⟩
def o544c (P : Params) : Obj := ⟨(.type "code"), .none, (.fields #[(.str (Z "Sure") 890), (.str (Z "Sure") 891), (.str (Z "/claim/cut.py") 892), (.int 178 0), (.int 0 0), (.int 0 0), (.int 0 0), (.int 0 0), (R 542), (.bool false), (.int 181 0), (R 543), .none, .none, .none, .none, (.int 893 0), (.int 178 0), (.str (Z "/claim/cut.py") 894)]), #[]⟩
def o545c (P : Params) : Obj := ⟨(.type "frame"), .none, .plain, #[(.some (R 544)), (.some (R 3)), (.some (R 540)), .none, (.some (.str (Z "heldground.rows") 432)), .none, (.some (R 0))]⟩
def o546c (P : Params) : Obj := ⟨(.type "tuple"), .none, (.seq #[(R 541)] 0), #[]⟩
def o547c (P : Params) : Obj := ⟨(.type "tuple"), .none, (.seq #[(.str (Z "__class__") 905)] 0), #[]⟩
def o548c (P : Params) : Obj := ⟨.none, .none, (.fields #[]), #[]⟩
def o549c (P : Params) : Obj := ⟨(.type "tuple"), .none, (.seq #[(.str (Z "self") 906), (.str (Z "slot") 907)] 0), #[]⟩
def o550c (P : Params) : Obj := ⟨(.type "tuple"), .none, (.seq #[] 0), #[]⟩
def o551c (P : Params) : Obj := ⟨.none, .none, (.func ⟨(Z "__init__"), (Z "Sure.__init__"), dA (ic (tp 41) 1), .stmts (dB (ic (tp 41) 1)), dS (ic (tp 41) 1), 0, [], .none, .none, .none, .none, .none, .none, .none, 0⟩), #[]⟩
def o552c (P : Params) : Obj := ⟨(.type "code"), .none, (.fields #[(.str (Z "__init__") 902), (.str (Z "Sure.__init__") 903), (.str (Z "/claim/cut.py") 904), (.int 181 0), (.int 2 0), (.int 0 0), (.int 0 0), (.int 3 0), (R 547), (.bool true), (.int 181 0), (R 548), .none, (R 549), (R 550), (R 551), (.int 908 0), (.int 181 0), (.str (Z "/claim/cut.py") 909)]), #[]⟩
def o553c (P : Params) : Obj := ⟨(.type "function"), .none, (.func ⟨(Z "__init__"), (Z "Sure.__init__"), dA (ic (tp 41) 1), .stmts (dB (ic (tp 41) 1)), dS (ic (tp 41) 1), 3, [((Z "__class__"), 541)], .none, .none, .none, (.str (Z "heldground.rows") 432), .none, (R 552), (R 546), 0⟩), #[]⟩
def o554c (P : Params) : Obj := ⟨(.type "tuple"), .none, (.seq #[(.str (Z "slot") 911)] 0), #[]⟩
def o555c (P : Params) : Obj := ⟨(.type "dict"), .none, (.dict #[⟨PyData.keyHash P (Z "__module__"), (.str (Z "__module__") 895), (.str (Z "heldground.rows") 432)⟩, ⟨PyData.keyHash P (Z "__firstlineno__"), (.str (Z "__firstlineno__") 899), (.int 178 898)⟩, ⟨PyData.keyHash P (Z "SORT"), (.str (Z "SORT") 901), (.str (Z "sure") 900)⟩, ⟨PyData.keyHash P (Z "__init__"), (.str (Z "__init__") 910), (R 553)⟩, ⟨PyData.keyHash P (Z "__static_attributes__"), (.str (Z "__static_attributes__") 912), (R 554)⟩, ⟨PyData.keyHash P (Z "__doc__"), (.str (Z "__doc__") 914), .none⟩] 3), #[]⟩
def o556c (P : Params) : Obj := ⟨(.type "type"), .none, (.cls ⟨(Z "Sure"), [(R 294)], [(R 556), (R 294), (R 261), (.type "object")], 555, (Z "Sure"), true, [], [], false, .none, false⟩), #[(.some (R 538)), .none, (.some (.str (Z "Sure") 888)), (.some (.str (Z "Sure") 896)), (.some (.builtin "object.__new__")), (.some (.bool true))]⟩
def o557c (P : Params) : Obj := ⟨(.type "super"), .none, (.fields #[(R 556), (R 556), (R 556)]), #[]⟩
def o558c (P : Params) : Obj := ⟨(.type "builtin_function_or_method"), .none, (.fields #[(.builtin "object.__init_subclass__"), (R 556)]), #[]⟩
def o559c (P : Params) : Obj := ⟨(.type "tuple"), .none, (.seq #[(R 294)] 0), #[]⟩
def o560c (P : Params) : Obj := ⟨(.type "builtin_function_or_method"), .none, (.fields #[(.builtin "type.__prepare__"), (.type "type")]), #[]⟩
def o561c (P : Params) : Obj := ⟨(.type "dict"), .none, (.dict #[⟨PyData.keyHash P (Z "__module__"), (.str (Z "__module__") 924), (.str (Z "heldground.rows") 432)⟩, ⟨PyData.keyHash P (Z "__qualname__"), (.str (Z "__qualname__") 926), (.str (Z "Missed") 925)⟩, ⟨PyData.keyHash P (Z "__firstlineno__"), (.str (Z "__firstlineno__") 928), (.int 185 927)⟩, ⟨PyData.keyHash P (Z "SORT"), (.str (Z "SORT") 930), (.str (Z "missed") 929)⟩, ⟨PyData.keyHash P (Z "__init__"), (.str (Z "__init__") 939), (R 574)⟩, ⟨PyData.keyHash P (Z "__static_attributes__"), (.str (Z "__static_attributes__") 941), (R 575)⟩, ⟨PyData.keyHash P (Z "__classcell__"), (.str (Z "__classcell__") 942), (R 562)⟩] 7), #[]⟩
def o562c (P : Params) : Obj := ⟨(.type "cell"), .none, (.cell (.some (R 577))), #[]⟩
def o563c (P : Params) : Obj := ⟨(.type "tuple"), .none, (.seq #[] 0), #[]⟩
def o564c (P : Params) : Obj := ⟨.none, .none, (.fields #[(.int 188 0), (.int 4 0), (R 573)]), #[]⟩
def o565c (P : Params) : Obj := ⟨(.type "code"), .none, (.fields #[(.str (Z "Missed") 919), (.str (Z "Missed") 920), (.str (Z "/claim/cut.py") 921), (.int 185 0), (.int 0 0), (.int 0 0), (.int 0 0), (.int 0 0), (R 563), (.bool false), (.int 181 0), (R 564), .none, .none, .none, .none, (.int 922 0), (.int 185 0), (.str (Z "/claim/cut.py") 923)]), #[]⟩
def o566c (P : Params) : Obj := ⟨(.type "frame"), .none, .plain, #[(.some (R 565)), (.some (R 3)), (.some (R 561)), .none, (.some (.str (Z "heldground.rows") 432)), .none, (.some (R 0))]⟩
def o567c (P : Params) : Obj := ⟨(.type "tuple"), .none, (.seq #[(R 562)] 0), #[]⟩
def o568c (P : Params) : Obj := ⟨(.type "tuple"), .none, (.seq #[(.str (Z "__class__") 934)] 0), #[]⟩
def o569c (P : Params) : Obj := ⟨.none, .none, (.fields #[]), #[]⟩
def o570c (P : Params) : Obj := ⟨(.type "tuple"), .none, (.seq #[(.str (Z "self") 935), (.str (Z "slot") 936)] 0), #[]⟩
def o571c (P : Params) : Obj := ⟨(.type "tuple"), .none, (.seq #[] 0), #[]⟩
def o572c (P : Params) : Obj := ⟨.none, .none, (.func ⟨(Z "__init__"), (Z "Missed.__init__"), dA (ic (tp 42) 1), .stmts (dB (ic (tp 42) 1)), dS (ic (tp 42) 1), 0, [], .none, .none, .none, .none, .none, .none, .none, 0⟩), #[]⟩
def o573c (P : Params) : Obj := ⟨(.type "code"), .none, (.fields #[(.str (Z "__init__") 931), (.str (Z "Missed.__init__") 932), (.str (Z "/claim/cut.py") 933), (.int 188 0), (.int 2 0), (.int 0 0), (.int 0 0), (.int 3 0), (R 568), (.bool true), (.int 181 0), (R 569), .none, (R 570), (R 571), (R 572), (.int 937 0), (.int 188 0), (.str (Z "/claim/cut.py") 938)]), #[]⟩
def o574c (P : Params) : Obj := ⟨(.type "function"), .none, (.func ⟨(Z "__init__"), (Z "Missed.__init__"), dA (ic (tp 42) 1), .stmts (dB (ic (tp 42) 1)), dS (ic (tp 42) 1), 3, [((Z "__class__"), 562)], .none, .none, .none, (.str (Z "heldground.rows") 432), .none, (R 573), (R 567), 0⟩), #[]⟩
def o575c (P : Params) : Obj := ⟨(.type "tuple"), .none, (.seq #[(.str (Z "slot") 940)] 0), #[]⟩
def o576c (P : Params) : Obj := ⟨(.type "dict"), .none, (.dict #[⟨PyData.keyHash P (Z "__module__"), (.str (Z "__module__") 924), (.str (Z "heldground.rows") 432)⟩, ⟨PyData.keyHash P (Z "__firstlineno__"), (.str (Z "__firstlineno__") 928), (.int 185 927)⟩, ⟨PyData.keyHash P (Z "SORT"), (.str (Z "SORT") 930), (.str (Z "missed") 929)⟩, ⟨PyData.keyHash P (Z "__init__"), (.str (Z "__init__") 939), (R 574)⟩, ⟨PyData.keyHash P (Z "__static_attributes__"), (.str (Z "__static_attributes__") 941), (R 575)⟩, ⟨PyData.keyHash P (Z "__doc__"), (.str (Z "__doc__") 943), .none⟩] 3), #[]⟩
def o577c (P : Params) : Obj := ⟨(.type "type"), .none, (.cls ⟨(Z "Missed"), [(R 294)], [(R 577), (R 294), (R 261), (.type "object")], 576, (Z "Missed"), true, [], [], false, .none, false⟩), #[(.some (R 559)), .none, (.some (.str (Z "Missed") 917)), (.some (.str (Z "Missed") 925)), (.some (.builtin "object.__new__")), (.some (.bool true))]⟩
def o578c (P : Params) : Obj := ⟨(.type "super"), .none, (.fields #[(R 577), (R 577), (R 577)]), #[]⟩
def o579c (P : Params) : Obj := ⟨(.type "builtin_function_or_method"), .none, (.fields #[(.builtin "object.__init_subclass__"), (R 577)]), #[]⟩
def o580c (P : Params) : Obj := ⟨(.type "tuple"), .none, (.seq #[(R 294)] 0), #[]⟩
def o581c (P : Params) : Obj := ⟨(.type "builtin_function_or_method"), .none, (.fields #[(.builtin "type.__prepare__"), (.type "type")]), #[]⟩
def o582c (P : Params) : Obj := ⟨(.type "dict"), .none, (.dict #[⟨PyData.keyHash P (Z "__module__"), (.str (Z "__module__") 953), (.str (Z "heldground.rows") 432)⟩, ⟨PyData.keyHash P (Z "__qualname__"), (.str (Z "__qualname__") 955), (.str (Z "Untold") 954)⟩, ⟨PyData.keyHash P (Z "__firstlineno__"), (.str (Z "__firstlineno__") 957), (.int 192 956)⟩, ⟨PyData.keyHash P (Z "SORT"), (.str (Z "SORT") 959), (.str (Z "untold") 958)⟩, ⟨PyData.keyHash P (Z "__init__"), (.str (Z "__init__") 968), (R 595)⟩, ⟨PyData.keyHash P (Z "__static_attributes__"), (.str (Z "__static_attributes__") 970), (R 596)⟩, ⟨PyData.keyHash P (Z "__classcell__"), (.str (Z "__classcell__") 971), (R 583)⟩] 7), #[]⟩
def o583c (P : Params) : Obj := ⟨(.type "cell"), .none, (.cell (.some (R 598))), #[]⟩
def o584c (P : Params) : Obj := ⟨(.type "tuple"), .none, (.seq #[] 0), #[]⟩
def o585c (P : Params) : Obj := ⟨.none, .none, (.fields #[(.int 195 0), (.int 4 0), (R 594)]), #[]⟩
def o586c (P : Params) : Obj := ⟨(.type "code"), .none, (.fields #[(.str (Z "Untold") 948), (.str (Z "Untold") 949), (.str (Z "/claim/cut.py") 950), (.int 192 0), (.int 0 0), (.int 0 0), (.int 0 0), (.int 0 0), (R 584), (.bool false), (.int 181 0), (R 585), .none, .none, .none, .none, (.int 951 0), (.int 192 0), (.str (Z "/claim/cut.py") 952)]), #[]⟩
def o587c (P : Params) : Obj := ⟨(.type "frame"), .none, .plain, #[(.some (R 586)), (.some (R 3)), (.some (R 582)), .none, (.some (.str (Z "heldground.rows") 432)), .none, (.some (R 0))]⟩
def o588c (P : Params) : Obj := ⟨(.type "tuple"), .none, (.seq #[(R 583)] 0), #[]⟩
def o589c (P : Params) : Obj := ⟨(.type "tuple"), .none, (.seq #[(.str (Z "__class__") 963)] 0), #[]⟩
def o590c (P : Params) : Obj := ⟨.none, .none, (.fields #[]), #[]⟩
def o591c (P : Params) : Obj := ⟨(.type "tuple"), .none, (.seq #[(.str (Z "self") 964), (.str (Z "slot") 965)] 0), #[]⟩
def o592c (P : Params) : Obj := ⟨(.type "tuple"), .none, (.seq #[] 0), #[]⟩
def o593c (P : Params) : Obj := ⟨.none, .none, (.func ⟨(Z "__init__"), (Z "Untold.__init__"), dA (ic (tp 43) 1), .stmts (dB (ic (tp 43) 1)), dS (ic (tp 43) 1), 0, [], .none, .none, .none, .none, .none, .none, .none, 0⟩), #[]⟩
def o594c (P : Params) : Obj := ⟨(.type "code"), .none, (.fields #[(.str (Z "__init__") 960), (.str (Z "Untold.__init__") 961), (.str (Z "/claim/cut.py") 962), (.int 195 0), (.int 2 0), (.int 0 0), (.int 0 0), (.int 3 0), (R 589), (.bool true), (.int 181 0), (R 590), .none, (R 591), (R 592), (R 593), (.int 966 0), (.int 195 0), (.str (Z "/claim/cut.py") 967)]), #[]⟩
def o595c (P : Params) : Obj := ⟨(.type "function"), .none, (.func ⟨(Z "__init__"), (Z "Untold.__init__"), dA (ic (tp 43) 1), .stmts (dB (ic (tp 43) 1)), dS (ic (tp 43) 1), 3, [((Z "__class__"), 583)], .none, .none, .none, (.str (Z "heldground.rows") 432), .none, (R 594), (R 588), 0⟩), #[]⟩
def o596c (P : Params) : Obj := ⟨(.type "tuple"), .none, (.seq #[(.str (Z "slot") 969)] 0), #[]⟩
def o597c (P : Params) : Obj := ⟨(.type "dict"), .none, (.dict #[⟨PyData.keyHash P (Z "__module__"), (.str (Z "__module__") 953), (.str (Z "heldground.rows") 432)⟩, ⟨PyData.keyHash P (Z "__firstlineno__"), (.str (Z "__firstlineno__") 957), (.int 192 956)⟩, ⟨PyData.keyHash P (Z "SORT"), (.str (Z "SORT") 959), (.str (Z "untold") 958)⟩, ⟨PyData.keyHash P (Z "__init__"), (.str (Z "__init__") 968), (R 595)⟩, ⟨PyData.keyHash P (Z "__static_attributes__"), (.str (Z "__static_attributes__") 970), (R 596)⟩, ⟨PyData.keyHash P (Z "__doc__"), (.str (Z "__doc__") 972), .none⟩] 3), #[]⟩
def o598c (P : Params) : Obj := ⟨(.type "type"), .none, (.cls ⟨(Z "Untold"), [(R 294)], [(R 598), (R 294), (R 261), (.type "object")], 597, (Z "Untold"), true, [], [], false, .none, false⟩), #[(.some (R 580)), .none, (.some (.str (Z "Untold") 946)), (.some (.str (Z "Untold") 954)), (.some (.builtin "object.__new__")), (.some (.bool true))]⟩
def o599c (P : Params) : Obj := ⟨(.type "super"), .none, (.fields #[(R 598), (R 598), (R 598)]), #[]⟩
def o600c (P : Params) : Obj := ⟨(.type "builtin_function_or_method"), .none, (.fields #[(.builtin "object.__init_subclass__"), (R 598)]), #[]⟩
def o601c (P : Params) : Obj := ⟨(.type "tuple"), .none, (.seq #[(R 294)] 0), #[]⟩
def o602c (P : Params) : Obj := ⟨(.type "builtin_function_or_method"), .none, (.fields #[(.builtin "type.__prepare__"), (.type "type")]), #[]⟩
def o603c (P : Params) : Obj := ⟨(.type "dict"), .none, (.dict #[⟨PyData.keyHash P (Z "__module__"), (.str (Z "__module__") 982), (.str (Z "heldground.rows") 432)⟩, ⟨PyData.keyHash P (Z "__qualname__"), (.str (Z "__qualname__") 984), (.str (Z "Bare") 983)⟩, ⟨PyData.keyHash P (Z "__firstlineno__"), (.str (Z "__firstlineno__") 986), (.int 199 985)⟩, ⟨PyData.keyHash P (Z "SORT"), (.str (Z "SORT") 988), (.str (Z "bare") 987)⟩, ⟨PyData.keyHash P (Z "__init__"), (.str (Z "__init__") 997), (R 616)⟩, ⟨PyData.keyHash P (Z "__static_attributes__"), (.str (Z "__static_attributes__") 999), (R 617)⟩, ⟨PyData.keyHash P (Z "__classcell__"), (.str (Z "__classcell__") 1000), (R 604)⟩] 7), #[]⟩
def o604c (P : Params) : Obj := ⟨(.type "cell"), .none, (.cell (.some (R 619))), #[]⟩
def o605c (P : Params) : Obj := ⟨(.type "tuple"), .none, (.seq #[] 0), #[]⟩
def o606c (P : Params) : Obj := ⟨.none, .none, (.fields #[(.int 202 0), (.int 4 0), (R 615)]), #[]⟩
def o607c (P : Params) : Obj := ⟨(.type "code"), .none, (.fields #[(.str (Z "Bare") 977), (.str (Z "Bare") 978), (.str (Z "/claim/cut.py") 979), (.int 199 0), (.int 0 0), (.int 0 0), (.int 0 0), (.int 0 0), (R 605), (.bool false), (.int 181 0), (R 606), .none, .none, .none, .none, (.int 980 0), (.int 199 0), (.str (Z "/claim/cut.py") 981)]), #[]⟩
def o608c (P : Params) : Obj := ⟨(.type "frame"), .none, .plain, #[(.some (R 607)), (.some (R 3)), (.some (R 603)), .none, (.some (.str (Z "heldground.rows") 432)), .none, (.some (R 0))]⟩
def o609c (P : Params) : Obj := ⟨(.type "tuple"), .none, (.seq #[(R 604)] 0), #[]⟩
def o610c (P : Params) : Obj := ⟨(.type "tuple"), .none, (.seq #[(.str (Z "__class__") 992)] 0), #[]⟩
def o611c (P : Params) : Obj := ⟨.none, .none, (.fields #[]), #[]⟩
def o612c (P : Params) : Obj := ⟨(.type "tuple"), .none, (.seq #[(.str (Z "self") 993), (.str (Z "slot") 994)] 0), #[]⟩
def o613c (P : Params) : Obj := ⟨(.type "tuple"), .none, (.seq #[] 0), #[]⟩
def o614c (P : Params) : Obj := ⟨.none, .none, (.func ⟨(Z "__init__"), (Z "Bare.__init__"), dA (ic (tp 44) 1), .stmts (dB (ic (tp 44) 1)), dS (ic (tp 44) 1), 0, [], .none, .none, .none, .none, .none, .none, .none, 0⟩), #[]⟩
def o615c (P : Params) : Obj := ⟨(.type "code"), .none, (.fields #[(.str (Z "__init__") 989), (.str (Z "Bare.__init__") 990), (.str (Z "/claim/cut.py") 991), (.int 202 0), (.int 2 0), (.int 0 0), (.int 0 0), (.int 3 0), (R 610), (.bool true), (.int 181 0), (R 611), .none, (R 612), (R 613), (R 614), (.int 995 0), (.int 202 0), (.str (Z "/claim/cut.py") 996)]), #[]⟩
def o616c (P : Params) : Obj := ⟨(.type "function"), .none, (.func ⟨(Z "__init__"), (Z "Bare.__init__"), dA (ic (tp 44) 1), .stmts (dB (ic (tp 44) 1)), dS (ic (tp 44) 1), 3, [((Z "__class__"), 604)], .none, .none, .none, (.str (Z "heldground.rows") 432), .none, (R 615), (R 609), 0⟩), #[]⟩
def o617c (P : Params) : Obj := ⟨(.type "tuple"), .none, (.seq #[(.str (Z "slot") 998)] 0), #[]⟩
def o618c (P : Params) : Obj := ⟨(.type "dict"), .none, (.dict #[⟨PyData.keyHash P (Z "__module__"), (.str (Z "__module__") 982), (.str (Z "heldground.rows") 432)⟩, ⟨PyData.keyHash P (Z "__firstlineno__"), (.str (Z "__firstlineno__") 986), (.int 199 985)⟩, ⟨PyData.keyHash P (Z "SORT"), (.str (Z "SORT") 988), (.str (Z "bare") 987)⟩, ⟨PyData.keyHash P (Z "__init__"), (.str (Z "__init__") 997), (R 616)⟩, ⟨PyData.keyHash P (Z "__static_attributes__"), (.str (Z "__static_attributes__") 999), (R 617)⟩, ⟨PyData.keyHash P (Z "__doc__"), (.str (Z "__doc__") 1001), .none⟩] 3), #[]⟩
def o619c (P : Params) : Obj := ⟨(.type "type"), .none, (.cls ⟨(Z "Bare"), [(R 294)], [(R 619), (R 294), (R 261), (.type "object")], 618, (Z "Bare"), true, [], [], false, .none, false⟩), #[(.some (R 601)), .none, (.some (.str (Z "Bare") 975)), (.some (.str (Z "Bare") 983)), (.some (.builtin "object.__new__")), (.some (.bool true))]⟩
def o620c (P : Params) : Obj := ⟨(.type "super"), .none, (.fields #[(R 619), (R 619), (R 619)]), #[]⟩
def o621c (P : Params) : Obj := ⟨(.type "builtin_function_or_method"), .none, (.fields #[(.builtin "object.__init_subclass__"), (R 619)]), #[]⟩
def o622c (P : Params) : Obj := ⟨(.type "tuple"), .none, (.seq #[(R 294)] 0), #[]⟩
def o623c (P : Params) : Obj := ⟨(.type "builtin_function_or_method"), .none, (.fields #[(.builtin "type.__prepare__"), (.type "type")]), #[]⟩
def o624c (P : Params) : Obj := ⟨(.type "dict"), .none, (.dict #[⟨PyData.keyHash P (Z "__module__"), (.str (Z "__module__") 1011), (.str (Z "heldground.rows") 432)⟩, ⟨PyData.keyHash P (Z "__qualname__"), (.str (Z "__qualname__") 1013), (.str (Z "AnySure") 1012)⟩, ⟨PyData.keyHash P (Z "__firstlineno__"), (.str (Z "__firstlineno__") 1015), (.int 206 1014)⟩, ⟨PyData.keyHash P (Z "SORT"), (.str (Z "SORT") 1017), (.str (Z "any sure") 1016)⟩, ⟨PyData.keyHash P (Z "__init__"), (.str (Z "__init__") 1025), (R 637)⟩, ⟨PyData.keyHash P (Z "__static_attributes__"), (.str (Z "__static_attributes__") 1026), (R 638)⟩, ⟨PyData.keyHash P (Z "__classcell__"), (.str (Z "__classcell__") 1027), (R 625)⟩] 7), #[]⟩
def o625c (P : Params) : Obj := ⟨(.type "cell"), .none, (.cell (.some (R 640))), #[]⟩
def o626c (P : Params) : Obj := ⟨(.type "tuple"), .none, (.seq #[] 0), #[]⟩
def o627c (P : Params) : Obj := ⟨.none, .none, (.fields #[(.int 209 0), (.int 4 0), (R 636)]), #[]⟩
def o628c (P : Params) : Obj := ⟨(.type "code"), .none, (.fields #[(.str (Z "AnySure") 1006), (.str (Z "AnySure") 1007), (.str (Z "/claim/cut.py") 1008), (.int 206 0), (.int 0 0), (.int 0 0), (.int 0 0), (.int 0 0), (R 626), (.bool false), (.int 181 0), (R 627), .none, .none, .none, .none, (.int 1009 0), (.int 206 0), (.str (Z "/claim/cut.py") 1010)]), #[]⟩
def o629c (P : Params) : Obj := ⟨(.type "frame"), .none, .plain, #[(.some (R 628)), (.some (R 3)), (.some (R 624)), .none, (.some (.str (Z "heldground.rows") 432)), .none, (.some (R 0))]⟩
def o630c (P : Params) : Obj := ⟨(.type "tuple"), .none, (.seq #[(R 625)] 0), #[]⟩
def o631c (P : Params) : Obj := ⟨(.type "tuple"), .none, (.seq #[(.str (Z "__class__") 1021)] 0), #[]⟩
def o632c (P : Params) : Obj := ⟨.none, .none, (.fields #[]), #[]⟩
def o633c (P : Params) : Obj := ⟨(.type "tuple"), .none, (.seq #[(.str (Z "self") 1022)] 0), #[]⟩
def o634c (P : Params) : Obj := ⟨(.type "tuple"), .none, (.seq #[] 0), #[]⟩
def o635c (P : Params) : Obj := ⟨.none, .none, (.func ⟨(Z "__init__"), (Z "AnySure.__init__"), dA (ic (tp 45) 1), .stmts (dB (ic (tp 45) 1)), dS (ic (tp 45) 1), 0, [], .none, .none, .none, .none, .none, .none, .none, 0⟩), #[]⟩
def o636c (P : Params) : Obj := ⟨(.type "code"), .none, (.fields #[(.str (Z "__init__") 1018), (.str (Z "AnySure.__init__") 1019), (.str (Z "/claim/cut.py") 1020), (.int 209 0), (.int 1 0), (.int 0 0), (.int 0 0), (.int 3 0), (R 631), (.bool true), (.int 181 0), (R 632), .none, (R 633), (R 634), (R 635), (.int 1023 0), (.int 209 0), (.str (Z "/claim/cut.py") 1024)]), #[]⟩
def o637c (P : Params) : Obj := ⟨(.type "function"), .none, (.func ⟨(Z "__init__"), (Z "AnySure.__init__"), dA (ic (tp 45) 1), .stmts (dB (ic (tp 45) 1)), dS (ic (tp 45) 1), 3, [((Z "__class__"), 625)], .none, .none, .none, (.str (Z "heldground.rows") 432), .none, (R 636), (R 630), 0⟩), #[]⟩
def o638c (P : Params) : Obj := ⟨(.type "tuple"), .none, (.seq #[] 0), #[]⟩
def o639c (P : Params) : Obj := ⟨(.type "dict"), .none, (.dict #[⟨PyData.keyHash P (Z "__module__"), (.str (Z "__module__") 1011), (.str (Z "heldground.rows") 432)⟩, ⟨PyData.keyHash P (Z "__firstlineno__"), (.str (Z "__firstlineno__") 1015), (.int 206 1014)⟩, ⟨PyData.keyHash P (Z "SORT"), (.str (Z "SORT") 1017), (.str (Z "any sure") 1016)⟩, ⟨PyData.keyHash P (Z "__init__"), (.str (Z "__init__") 1025), (R 637)⟩, ⟨PyData.keyHash P (Z "__static_attributes__"), (.str (Z "__static_attributes__") 1026), (R 638)⟩, ⟨PyData.keyHash P (Z "__doc__"), (.str (Z "__doc__") 1028), .none⟩] 3), #[]⟩
def o640c (P : Params) : Obj := ⟨(.type "type"), .none, (.cls ⟨(Z "AnySure"), [(R 294)], [(R 640), (R 294), (R 261), (.type "object")], 639, (Z "AnySure"), true, [], [], false, .none, false⟩), #[(.some (R 622)), .none, (.some (.str (Z "AnySure") 1004)), (.some (.str (Z "AnySure") 1012)), (.some (.builtin "object.__new__")), (.some (.bool true))]⟩
def o641c (P : Params) : Obj := ⟨(.type "super"), .none, (.fields #[(R 640), (R 640), (R 640)]), #[]⟩
def o642c (P : Params) : Obj := ⟨(.type "builtin_function_or_method"), .none, (.fields #[(.builtin "object.__init_subclass__"), (R 640)]), #[]⟩
def o643c (P : Params) : Obj := ⟨(.type "tuple"), .none, (.seq #[(R 294)] 0), #[]⟩
def o644c (P : Params) : Obj := ⟨(.type "builtin_function_or_method"), .none, (.fields #[(.builtin "type.__prepare__"), (.type "type")]), #[]⟩
def o645c (P : Params) : Obj := ⟨(.type "dict"), .none, (.dict #[⟨PyData.keyHash P (Z "__module__"), (.str (Z "__module__") 1038), (.str (Z "heldground.rows") 432)⟩, ⟨PyData.keyHash P (Z "__qualname__"), (.str (Z "__qualname__") 1040), (.str (Z "Holds") 1039)⟩, ⟨PyData.keyHash P (Z "__firstlineno__"), (.str (Z "__firstlineno__") 1042), (.int 211 1041)⟩, ⟨PyData.keyHash P (Z "SORT"), (.str (Z "SORT") 1044), (.str (Z "holds") 1043)⟩, ⟨PyData.keyHash P (Z "__init__"), (.str (Z "__init__") 1054), (R 658)⟩, ⟨PyData.keyHash P (Z "__static_attributes__"), (.str (Z "__static_attributes__") 1057), (R 659)⟩, ⟨PyData.keyHash P (Z "__classcell__"), (.str (Z "__classcell__") 1058), (R 646)⟩] 7), #[]⟩
def o646c (P : Params) : Obj := ⟨(.type "cell"), .none, (.cell (.some (R 661))), #[]⟩
def o647c (P : Params) : Obj := ⟨(.type "tuple"), .none, (.seq #[] 0), #[]⟩
def o648c (P : Params) : Obj := ⟨.none, .none, (.fields #[(.int 214 0), (.int 4 0), (R 657)]), #[]⟩
def o649c (P : Params) : Obj := ⟨(.type "code"), .none, (.fields #[(.str (Z "Holds") 1033), (.str (Z "Holds") 1034), (.str (Z "/claim/cut.py") 1035), (.int 211 0), (.int 0 0), (.int 0 0), (.int 0 0), (.int 0 0), (R 647), (.bool false), (.int 181 0), (R 648), .none, .none, .none, .none, (.int 1036 0), (.int 211 0), (.str (Z "/claim/cut.py") 1037)]), #[]⟩
def o650c (P : Params) : Obj := ⟨(.type "frame"), .none, .plain, #[(.some (R 649)), (.some (R 3)), (.some (R 645)), .none, (.some (.str (Z "heldground.rows") 432)), .none, (.some (R 0))]⟩
def o651c (P : Params) : Obj := ⟨(.type "tuple"), .none, (.seq #[(R 646)] 0), #[]⟩
def o652c (P : Params) : Obj := ⟨(.type "tuple"), .none, (.seq #[(.str (Z "__class__") 1048)] 0), #[]⟩
def o653c (P : Params) : Obj := ⟨.none, .none, (.fields #[]), #[]⟩
def o654c (P : Params) : Obj := ⟨(.type "tuple"), .none, (.seq #[(.str (Z "self") 1049), (.str (Z "note") 1050), (.str (Z "number") 1051)] 0), #[]⟩
def o655c (P : Params) : Obj := ⟨(.type "tuple"), .none, (.seq #[] 0), #[]⟩
def o656c (P : Params) : Obj := ⟨.none, .none, (.func ⟨(Z "__init__"), (Z "Holds.__init__"), dA (ic (tp 46) 1), .stmts (dB (ic (tp 46) 1)), dS (ic (tp 46) 1), 0, [], .none, .none, .none, .none, .none, .none, .none, 0⟩), #[]⟩
def o657c (P : Params) : Obj := ⟨(.type "code"), .none, (.fields #[(.str (Z "__init__") 1045), (.str (Z "Holds.__init__") 1046), (.str (Z "/claim/cut.py") 1047), (.int 214 0), (.int 3 0), (.int 0 0), (.int 0 0), (.int 3 0), (R 652), (.bool true), (.int 181 0), (R 653), .none, (R 654), (R 655), (R 656), (.int 1052 0), (.int 214 0), (.str (Z "/claim/cut.py") 1053)]), #[]⟩
def o658c (P : Params) : Obj := ⟨(.type "function"), .none, (.func ⟨(Z "__init__"), (Z "Holds.__init__"), dA (ic (tp 46) 1), .stmts (dB (ic (tp 46) 1)), dS (ic (tp 46) 1), 3, [((Z "__class__"), 646)], .none, .none, .none, (.str (Z "heldground.rows") 432), .none, (R 657), (R 651), 0⟩), #[]⟩
def o659c (P : Params) : Obj := ⟨(.type "tuple"), .none, (.seq #[(.str (Z "note") 1055), (.str (Z "number") 1056)] 0), #[]⟩
def o660c (P : Params) : Obj := ⟨(.type "dict"), .none, (.dict #[⟨PyData.keyHash P (Z "__module__"), (.str (Z "__module__") 1038), (.str (Z "heldground.rows") 432)⟩, ⟨PyData.keyHash P (Z "__firstlineno__"), (.str (Z "__firstlineno__") 1042), (.int 211 1041)⟩, ⟨PyData.keyHash P (Z "SORT"), (.str (Z "SORT") 1044), (.str (Z "holds") 1043)⟩, ⟨PyData.keyHash P (Z "__init__"), (.str (Z "__init__") 1054), (R 658)⟩, ⟨PyData.keyHash P (Z "__static_attributes__"), (.str (Z "__static_attributes__") 1057), (R 659)⟩, ⟨PyData.keyHash P (Z "__doc__"), (.str (Z "__doc__") 1059), .none⟩] 3), #[]⟩
def o661c (P : Params) : Obj := ⟨(.type "type"), .none, (.cls ⟨(Z "Holds"), [(R 294)], [(R 661), (R 294), (R 261), (.type "object")], 660, (Z "Holds"), true, [], [], false, .none, false⟩), #[(.some (R 643)), .none, (.some (.str (Z "Holds") 1031)), (.some (.str (Z "Holds") 1039)), (.some (.builtin "object.__new__")), (.some (.bool true))]⟩
def o662c (P : Params) : Obj := ⟨(.type "super"), .none, (.fields #[(R 661), (R 661), (R 661)]), #[]⟩
def o663c (P : Params) : Obj := ⟨(.type "builtin_function_or_method"), .none, (.fields #[(.builtin "object.__init_subclass__"), (R 661)]), #[]⟩
def o664c (P : Params) : Obj := ⟨(.type "tuple"), .none, (.seq #[(R 294)] 0), #[]⟩
def o665c (P : Params) : Obj := ⟨(.type "builtin_function_or_method"), .none, (.fields #[(.builtin "type.__prepare__"), (.type "type")]), #[]⟩
def o666c (P : Params) : Obj := ⟨(.type "dict"), .none, (.dict #[⟨PyData.keyHash P (Z "__module__"), (.str (Z "__module__") 1069), (.str (Z "heldground.rows") 432)⟩, ⟨PyData.keyHash P (Z "__qualname__"), (.str (Z "__qualname__") 1071), (.str (Z "Not") 1070)⟩, ⟨PyData.keyHash P (Z "__firstlineno__"), (.str (Z "__firstlineno__") 1073), (.int 220 1072)⟩, ⟨PyData.keyHash P (Z "SORT"), (.str (Z "SORT") 1075), (.str (Z "not") 1074)⟩, ⟨PyData.keyHash P (Z "__init__"), (.str (Z "__init__") 1084), (R 679)⟩, ⟨PyData.keyHash P (Z "__static_attributes__"), (.str (Z "__static_attributes__") 1086), (R 680)⟩, ⟨PyData.keyHash P (Z "__classcell__"), (.str (Z "__classcell__") 1087), (R 667)⟩] 7), #[]⟩
def o667c (P : Params) : Obj := ⟨(.type "cell"), .none, (.cell (.some (R 682))), #[]⟩
def o668c (P : Params) : Obj := ⟨(.type "tuple"), .none, (.seq #[] 0), #[]⟩
def o669c (P : Params) : Obj := ⟨.none, .none, (.fields #[(.int 223 0), (.int 4 0), (R 678)]), #[]⟩
def o670c (P : Params) : Obj := ⟨(.type "code"), .none, (.fields #[(.str (Z "Not") 1064), (.str (Z "Not") 1065), (.str (Z "/claim/cut.py") 1066), (.int 220 0), (.int 0 0), (.int 0 0), (.int 0 0), (.int 0 0), (R 668), (.bool false), (.int 181 0), (R 669), .none, .none, .none, .none, (.int 1067 0), (.int 220 0), (.str (Z "/claim/cut.py") 1068)]), #[]⟩
def o671c (P : Params) : Obj := ⟨(.type "frame"), .none, .plain, #[(.some (R 670)), (.some (R 3)), (.some (R 666)), .none, (.some (.str (Z "heldground.rows") 432)), .none, (.some (R 0))]⟩
def o672c (P : Params) : Obj := ⟨(.type "tuple"), .none, (.seq #[(R 667)] 0), #[]⟩
def o673c (P : Params) : Obj := ⟨(.type "tuple"), .none, (.seq #[(.str (Z "__class__") 1079)] 0), #[]⟩
def o674c (P : Params) : Obj := ⟨.none, .none, (.fields #[]), #[]⟩
def o675c (P : Params) : Obj := ⟨(.type "tuple"), .none, (.seq #[(.str (Z "self") 1080), (.str (Z "test") 1081)] 0), #[]⟩
def o676c (P : Params) : Obj := ⟨(.type "tuple"), .none, (.seq #[] 0), #[]⟩
def o677c (P : Params) : Obj := ⟨.none, .none, (.func ⟨(Z "__init__"), (Z "Not.__init__"), dA (ic (tp 47) 1), .stmts (dB (ic (tp 47) 1)), dS (ic (tp 47) 1), 0, [], .none, .none, .none, .none, .none, .none, .none, 0⟩), #[]⟩
def o678c (P : Params) : Obj := ⟨(.type "code"), .none, (.fields #[(.str (Z "__init__") 1076), (.str (Z "Not.__init__") 1077), (.str (Z "/claim/cut.py") 1078), (.int 223 0), (.int 2 0), (.int 0 0), (.int 0 0), (.int 3 0), (R 673), (.bool true), (.int 181 0), (R 674), .none, (R 675), (R 676), (R 677), (.int 1082 0), (.int 223 0), (.str (Z "/claim/cut.py") 1083)]), #[]⟩
def o679c (P : Params) : Obj := ⟨(.type "function"), .none, (.func ⟨(Z "__init__"), (Z "Not.__init__"), dA (ic (tp 47) 1), .stmts (dB (ic (tp 47) 1)), dS (ic (tp 47) 1), 3, [((Z "__class__"), 667)], .none, .none, .none, (.str (Z "heldground.rows") 432), .none, (R 678), (R 672), 0⟩), #[]⟩
def o680c (P : Params) : Obj := ⟨(.type "tuple"), .none, (.seq #[(.str (Z "test") 1085)] 0), #[]⟩
def o681c (P : Params) : Obj := ⟨(.type "dict"), .none, (.dict #[⟨PyData.keyHash P (Z "__module__"), (.str (Z "__module__") 1069), (.str (Z "heldground.rows") 432)⟩, ⟨PyData.keyHash P (Z "__firstlineno__"), (.str (Z "__firstlineno__") 1073), (.int 220 1072)⟩, ⟨PyData.keyHash P (Z "SORT"), (.str (Z "SORT") 1075), (.str (Z "not") 1074)⟩, ⟨PyData.keyHash P (Z "__init__"), (.str (Z "__init__") 1084), (R 679)⟩, ⟨PyData.keyHash P (Z "__static_attributes__"), (.str (Z "__static_attributes__") 1086), (R 680)⟩, ⟨PyData.keyHash P (Z "__doc__"), (.str (Z "__doc__") 1088), .none⟩] 3), #[]⟩
def o682c (P : Params) : Obj := ⟨(.type "type"), .none, (.cls ⟨(Z "Not"), [(R 294)], [(R 682), (R 294), (R 261), (.type "object")], 681, (Z "Not"), true, [], [], false, .none, false⟩), #[(.some (R 664)), .none, (.some (.str (Z "Not") 1062)), (.some (.str (Z "Not") 1070)), (.some (.builtin "object.__new__")), (.some (.bool true))]⟩
def o683c (P : Params) : Obj := ⟨(.type "super"), .none, (.fields #[(R 682), (R 682), (R 682)]), #[]⟩
def o684c (P : Params) : Obj := ⟨(.type "builtin_function_or_method"), .none, (.fields #[(.builtin "object.__init_subclass__"), (R 682)]), #[]⟩
def o685c (P : Params) : Obj := ⟨(.type "tuple"), .none, (.seq #[] 0), #[]⟩
def o686c (P : Params) : Obj := ⟨.none, .none, (.fields #[]), #[]⟩
def o687c (P : Params) : Obj := ⟨(.type "tuple"), .none, (.seq #[(.str (Z "rows") 1094), (.str (Z "found") 1095), (.str (Z "row") 1096)] 0), #[]⟩
def o688c (P : Params) : Obj := ⟨(.type "tuple"), .none, (.seq #[] 0), #[]⟩
def o689c (P : Params) : Obj := ⟨.none, .none, (.func ⟨(Z "lines_of"), (Z "lines_of"), dA (tp 48), .stmts (dB (tp 48)), dS (tp 48), 0, [], .none, .none, .none, .none, .none, .none, .none, 0⟩), #[]⟩
def o690c (P : Params) : Obj := ⟨(.type "code"), .none, (.fields #[(.str (Z "lines_of") 1091), (.str (Z "lines_of") 1092), (.str (Z "/claim/cut.py") 1093), (.int 227 0), (.int 1 0), (.int 0 0), (.int 0 0), (.int 3 0), (R 685), (.bool true), (.int 181 0), (R 686), .none, (R 687), (R 688), (R 689), (.int 1097 0), (.int 227 0), (.str (Z "/claim/cut.py") 1098)]), #[]⟩
def o691c (P : Params) : Obj := ⟨(.type "function"), .none, (.func ⟨(Z "lines_of"), (Z "lines_of"), dA (tp 48), .stmts (dB (tp 48)), dS (tp 48), 3, [], .none, .none, .none, (.str (Z "heldground.rows") 432), .none, (R 690), .none, 0⟩), #[]⟩
def o692c (P : Params) : Obj := ⟨(.type "tuple"), .none, (.seq #[] 0), #[]⟩
def o693c (P : Params) : Obj := ⟨.none, .none, (.fields #[]), #[]⟩
def o694c (P : Params) : Obj := ⟨(.type "tuple"), .none, (.seq #[(.str (Z "rows") 1103), (.str (Z "found") 1104), (.str (Z "row") 1105)] 0), #[]⟩
def o695c (P : Params) : Obj := ⟨(.type "tuple"), .none, (.seq #[] 0), #[]⟩
def o696c (P : Params) : Obj := ⟨.none, .none, (.func ⟨(Z "inner_rows"), (Z "inner_rows"), dA (tp 49), .stmts (dB (tp 49)), dS (tp 49), 0, [], .none, .none, .none, .none, .none, .none, .none, 0⟩), #[]⟩
def o697c (P : Params) : Obj := ⟨(.type "code"), .none, (.fields #[(.str (Z "inner_rows") 1100), (.str (Z "inner_rows") 1101), (.str (Z "/claim/cut.py") 1102), (.int 232 0), (.int 1 0), (.int 0 0), (.int 0 0), (.int 3 0), (R 692), (.bool true), (.int 181 0), (R 693), .none, (R 694), (R 695), (R 696), (.int 1106 0), (.int 232 0), (.str (Z "/claim/cut.py") 1107)]), #[]⟩
def o698c (P : Params) : Obj := ⟨(.type "function"), .none, (.func ⟨(Z "inner_rows"), (Z "inner_rows"), dA (tp 49), .stmts (dB (tp 49)), dS (tp 49), 3, [], .none, .none, .none, (.str (Z "heldground.rows") 432), .none, (R 697), .none, 0⟩), #[]⟩
def o699c (P : Params) : Obj := ⟨(.type "tuple"), .none, (.seq #[] 0), #[]⟩
def o700c (P : Params) : Obj := ⟨(.type "builtin_function_or_method"), .none, (.fields #[(.builtin "type.__prepare__"), (.type "type")]), #[]⟩
def o701c (P : Params) : Obj := ⟨(.type "dict"), .none, (.dict #[⟨PyData.keyHash P (Z "__module__"), (.str (Z "__module__") 1126), (.str (Z "heldground.steps") 1109)⟩, ⟨PyData.keyHash P (Z "__qualname__"), (.str (Z "__qualname__") 1128), (.str (Z "Moment") 1127)⟩, ⟨PyData.keyHash P (Z "__firstlineno__"), (.str (Z "__firstlineno__") 1130), (.int 242 1129)⟩, ⟨PyData.keyHash P (Z "__init__"), (.str (Z "__init__") 1140), (R 712)⟩, ⟨PyData.keyHash P (Z "__static_attributes__"), (.str (Z "__static_attributes__") 1147), (R 713)⟩] 5), #[]⟩
def o702c (P : Params) : Obj := ⟨(.type "tuple"), .none, (.seq #[] 0), #[]⟩
def o703c (P : Params) : Obj := ⟨.none, .none, (.fields #[(.int 244 0), (.int 4 0), (R 711)]), #[]⟩
def o704c (P : Params) : Obj := ⟨(.type "code"), .none, (.fields #[(.str (Z "Moment") 1121), (.str (Z "Moment") 1122), (.str (Z "/claim/cut.py") 1123), (.int 242 0), (.int 0 0), (.int 0 0), (.int 0 0), (.int 0 0), (R 702), (.bool false), (.int 181 0), (R 703), .none, .none, .none, .none, (.int 1124 0), (.int 242 0), (.str (Z "/claim/cut.py") 1125)]), #[]⟩
def o705c (P : Params) : Obj := ⟨(.type "frame"), .none, .plain, #[(.some (R 704)), (.some (R 3)), (.some (R 701)), .none, (.some (.str (Z "heldground.steps") 1109)), .none, (.some (R 0))]⟩
def o706c (P : Params) : Obj := ⟨(.type "tuple"), .none, (.seq #[] 0), #[]⟩
def o707c (P : Params) : Obj := ⟨.none, .none, (.fields #[]), #[]⟩
def o708c (P : Params) : Obj := ⟨(.type "tuple"), .none, (.seq #[(.str (Z "self") 1134), (.str (Z "rests") 1135), (.str (Z "letters") 1136), (.str (Z "order") 1137)] 0), #[]⟩
def o709c (P : Params) : Obj := ⟨(.type "tuple"), .none, (.seq #[] 0), #[]⟩
def o710c (P : Params) : Obj := ⟨.none, .none, (.func ⟨(Z "__init__"), (Z "Moment.__init__"), dA (ic (tp 55) 0), .stmts (dB (ic (tp 55) 0)), dS (ic (tp 55) 0), 0, [], .none, .none, .none, .none, .none, .none, .none, 0⟩), #[]⟩
def o711c (P : Params) : Obj := ⟨(.type "code"), .none, (.fields #[(.str (Z "__init__") 1131), (.str (Z "Moment.__init__") 1132), (.str (Z "/claim/cut.py") 1133), (.int 244 0), (.int 4 0), (.int 0 0), (.int 0 0), (.int 3 0), (R 706), (.bool true), (.int 181 0), (R 707), .none, (R 708), (R 709), (R 710), (.int 1138 0), (.int 244 0), (.str (Z "/claim/cut.py") 1139)]), #[]⟩
def o712c (P : Params) : Obj := ⟨(.type "function"), .none, (.func ⟨(Z "__init__"), (Z "Moment.__init__"), dA (ic (tp 55) 0), .stmts (dB (ic (tp 55) 0)), dS (ic (tp 55) 0), 3, [], .none, .none, .none, (.str (Z "heldground.steps") 1109), .none, (R 711), .none, 0⟩), #[]⟩
def o713c (P : Params) : Obj := ⟨(.type "tuple"), .none, (.seq #[(.str (Z "chosen") 1141), (.str (Z "held_rests") 1142), (.str (Z "is_over") 1143), (.str (Z "kept_in") 1144), (.str (Z "newest_first") 1145), (.str (Z "signs") 1146)] 0), #[]⟩
def o714c (P : Params) : Obj := ⟨(.type "dict"), .none, (.dict #[⟨PyData.keyHash P (Z "__module__"), (.str (Z "__module__") 1126), (.str (Z "heldground.steps") 1109)⟩, ⟨PyData.keyHash P (Z "__firstlineno__"), (.str (Z "__firstlineno__") 1130), (.int 242 1129)⟩, ⟨PyData.keyHash P (Z "__init__"), (.str (Z "__init__") 1140), (R 712)⟩, ⟨PyData.keyHash P (Z "__static_attributes__"), (.str (Z "__static_attributes__") 1147), (R 713)⟩, ⟨PyData.keyHash P (Z "__dict__"), (.str (Z "__dict__") 1149), (R 716)⟩, ⟨PyData.keyHash P (Z "__weakref__"), (.str (Z "__weakref__") 1151), (R 717)⟩, ⟨PyData.keyHash P (Z "__doc__"), (.str (Z "__doc__") 1152), .none⟩] 4), #[]⟩
def o715c (P : Params) : Obj := ⟨(.type "type"), .none, (.cls ⟨(Z "Moment"), [(.type "object")], [(R 715), (.type "object")], 714, (Z "Moment"), true, [], [], false, .none, false⟩), #[.none, .none, (.some (.str (Z "Moment") 1119)), (.some (.str (Z "Moment") 1127)), (.some (.builtin "object.__new__")), (.some (.bool true))]⟩
def o716c (P : Params) : Obj := ⟨(.type "getset_descriptor"), .none, (.fields #[(.str (Z "__dict__") 1148), (R 715), (.builtin "function.__dict__"), (.builtin "function.__dict__#set")]), #[]⟩
def o717c (P : Params) : Obj := ⟨(.type "getset_descriptor"), .none, (.fields #[(.str (Z "__weakref__") 1150), (R 715), (.builtin "ExceptionGroup.__weakref__"), .none]), #[]⟩
def o718c (P : Params) : Obj := ⟨(.type "super"), .none, (.fields #[(R 715), (R 715), (R 715)]), #[]⟩
def o719c (P : Params) : Obj := ⟨(.type "builtin_function_or_method"), .none, (.fields #[(.builtin "object.__init_subclass__"), (R 715)]), #[]⟩
def o720c (P : Params) : Obj := ⟨(.type "tuple"), .none, (.seq #[] 0), #[]⟩
def o721c (P : Params) : Obj := ⟨(.type "builtin_function_or_method"), .none, (.fields #[(.builtin "type.__prepare__"), (.type "type")]), #[]⟩
def o722c (P : Params) : Obj := ⟨(.type "dict"), .none, (.dict #[⟨PyData.keyHash P (Z "__module__"), (.str (Z "__module__") 1162), (.str (Z "heldground.steps") 1109)⟩, ⟨PyData.keyHash P (Z "__qualname__"), (.str (Z "__qualname__") 1164), (.str (Z "Brain") 1163)⟩, ⟨PyData.keyHash P (Z "__firstlineno__"), (.str (Z "__firstlineno__") 1166), (.int 251 1165)⟩, ⟨PyData.keyHash P (Z "__init__"), (.str (Z "__init__") 1172), (R 731)⟩, ⟨PyData.keyHash P (Z "choose"), (.str (Z "choose") 1183), (R 738)⟩, ⟨PyData.keyHash P (Z "do_rows"), (.str (Z "do_rows") 1193), (R 745)⟩, ⟨PyData.keyHash P (Z "do_one"), (.str (Z "do_one") 1202), (R 752)⟩, ⟨PyData.keyHash P (Z "noted"), (.str (Z "noted") 1213), (R 759)⟩, ⟨PyData.keyHash P (Z "holds"), (.str (Z "holds") 1223), (R 766)⟩, ⟨PyData.keyHash P (Z "__static_attributes__"), (.str (Z "__static_attributes__") 1228), (R 767)⟩] 10), #[]⟩
def o723c (P : Params) : Obj := ⟨(.type "tuple"), .none, (.seq #[] 0), #[]⟩
def o724c (P : Params) : Obj := ⟨.none, .none, (.fields #[(.int 253 0), (.int 4 0), (R 730), (.int 259 0), (.int 4 0), (R 737), (.int 264 0), (.int 4 0), (R 744), (.int 269 0), (.int 4 0), (R 751), (.int 285 0), (.int 4 0), (R 758), (.int 290 0), (.int 4 0), (R 765)]), #[]⟩
def o725c (P : Params) : Obj := ⟨(.type "code"), .none, (.fields #[(.str (Z "Brain") 1157), (.str (Z "Brain") 1158), (.str (Z "/claim/cut.py") 1159), (.int 251 0), (.int 0 0), (.int 0 0), (.int 0 0), (.int 0 0), (R 723), (.bool false), (.int 181 0), (R 724), .none, .none, .none, .none, (.int 1160 0), (.int 251 0), (.str (Z "/claim/cut.py") 1161)]), #[]⟩
def o726c (P : Params) : Obj := ⟨(.type "frame"), .none, .plain, #[(.some (R 725)), (.some (R 3)), (.some (R 722)), .none, (.some (.str (Z "heldground.steps") 1109)), .none, (.some (R 0))]⟩
def o727c (P : Params) : Obj := ⟨(.type "tuple"), .none, (.seq #[] 0), #[]⟩
def o728c (P : Params) : Obj := ⟨.none, .none, (.fields #[]), #[]⟩
def o729c (P : Params) : Obj := ⟨.none, .none, (.func ⟨(Z "__init__"), (Z "Brain.__init__"), dA (ic (tp 56) 0), .stmts (dB (ic (tp 56) 0)), dS (ic (tp 56) 0), 0, [], .none, .none, .none, .none, .none, .none, .none, 0⟩), #[]⟩
def o730c (P : Params) : Obj := ⟨(.type "code"), .none, (.fields #[(.str (Z "__init__") 1167), (.str (Z "Brain.__init__") 1168), (.str (Z "/claim/cut.py") 1169), (.int 253 0), (.int 2 0), (.int 0 0), (.int 0 0), (.int 3 0), (R 727), (.bool true), (.int 181 0), (R 728), .none, .none, .none, (R 729), (.int 1170 0), (.int 253 0), (.str (Z "/claim/cut.py") 1171)]), #[]⟩
def o731c (P : Params) : Obj := ⟨(.type "function"), .none, (.func ⟨(Z "__init__"), (Z "Brain.__init__"), dA (ic (tp 56) 0), .stmts (dB (ic (tp 56) 0)), dS (ic (tp 56) 0), 3, [], .none, .none, .none, (.str (Z "heldground.steps") 1109), .none, (R 730), .none, 0⟩), #[]⟩
def o732c (P : Params) : Obj := ⟨(.type "tuple"), .none, (.seq #[] 0), #[]⟩
def o733c (P : Params) : Obj := ⟨.none, .none, (.fields #[]), #[]⟩
def o734c (P : Params) : Obj := ⟨(.type "tuple"), .none, (.seq #[(.str (Z "self") 1176), (.str (Z "rests") 1177), (.str (Z "letters") 1178), (.str (Z "order") 1179), (.str (Z "now") 1180)] 0), #[]⟩
def o735c (P : Params) : Obj := ⟨(.type "tuple"), .none, (.seq #[] 0), #[]⟩
def o736c (P : Params) : Obj := ⟨.none, .none, (.func ⟨(Z "choose"), (Z "Brain.choose"), dA (ic (tp 56) 1), .stmts (dB (ic (tp 56) 1)), dS (ic (tp 56) 1), 0, [], .none, .none, .none, .none, .none, .none, .none, 0⟩), #[]⟩
def o737c (P : Params) : Obj := ⟨(.type "code"), .none, (.fields #[(.str (Z "choose") 1173), (.str (Z "Brain.choose") 1174), (.str (Z "/claim/cut.py") 1175), (.int 259 0), (.int 4 0), (.int 0 0), (.int 0 0), (.int 3 0), (R 732), (.bool true), (.int 181 0), (R 733), .none, (R 734), (R 735), (R 736), (.int 1181 0), (.int 259 0), (.str (Z "/claim/cut.py") 1182)]), #[]⟩
def o738c (P : Params) : Obj := ⟨(.type "function"), .none, (.func ⟨(Z "choose"), (Z "Brain.choose"), dA (ic (tp 56) 1), .stmts (dB (ic (tp 56) 1)), dS (ic (tp 56) 1), 3, [], .none, .none, .none, (.str (Z "heldground.steps") 1109), .none, (R 737), .none, 0⟩), #[]⟩
def o739c (P : Params) : Obj := ⟨(.type "tuple"), .none, (.seq #[] 0), #[]⟩
def o740c (P : Params) : Obj := ⟨.none, .none, (.fields #[]), #[]⟩
def o741c (P : Params) : Obj := ⟨(.type "tuple"), .none, (.seq #[(.str (Z "self") 1187), (.str (Z "rows") 1188), (.str (Z "now") 1189), (.str (Z "row") 1190)] 0), #[]⟩
def o742c (P : Params) : Obj := ⟨(.type "tuple"), .none, (.seq #[] 0), #[]⟩
def o743c (P : Params) : Obj := ⟨.none, .none, (.func ⟨(Z "do_rows"), (Z "Brain.do_rows"), dA (ic (tp 56) 2), .stmts (dB (ic (tp 56) 2)), dS (ic (tp 56) 2), 0, [], .none, .none, .none, .none, .none, .none, .none, 0⟩), #[]⟩
def o744c (P : Params) : Obj := ⟨(.type "code"), .none, (.fields #[(.str (Z "do_rows") 1184), (.str (Z "Brain.do_rows") 1185), (.str (Z "/claim/cut.py") 1186), (.int 264 0), (.int 3 0), (.int 0 0), (.int 0 0), (.int 3 0), (R 739), (.bool true), (.int 181 0), (R 740), .none, (R 741), (R 742), (R 743), (.int 1191 0), (.int 264 0), (.str (Z "/claim/cut.py") 1192)]), #[]⟩
def o745c (P : Params) : Obj := ⟨(.type "function"), .none, (.func ⟨(Z "do_rows"), (Z "Brain.do_rows"), dA (ic (tp 56) 2), .stmts (dB (ic (tp 56) 2)), dS (ic (tp 56) 2), 3, [], .none, .none, .none, (.str (Z "heldground.steps") 1109), .none, (R 744), .none, 0⟩), #[]⟩
def o746c (P : Params) : Obj := ⟨(.type "tuple"), .none, (.seq #[] 0), #[]⟩
def o747c (P : Params) : Obj := ⟨.none, .none, (.fields #[]), #[]⟩
def o748c (P : Params) : Obj := ⟨(.type "tuple"), .none, (.seq #[(.str (Z "self") 1197), (.str (Z "row") 1198), (.str (Z "now") 1199)] 0), #[]⟩
def o749c (P : Params) : Obj := ⟨(.type "tuple"), .none, (.seq #[] 0), #[]⟩
def o750c (P : Params) : Obj := ⟨.none, .none, (.func ⟨(Z "do_one"), (Z "Brain.do_one"), dA (ic (tp 56) 3), .stmts (dB (ic (tp 56) 3)), dS (ic (tp 56) 3), 0, [], .none, .none, .none, .none, .none, .none, .none, 0⟩), #[]⟩
def o751c (P : Params) : Obj := ⟨(.type "code"), .none, (.fields #[(.str (Z "do_one") 1194), (.str (Z "Brain.do_one") 1195), (.str (Z "/claim/cut.py") 1196), (.int 269 0), (.int 3 0), (.int 0 0), (.int 0 0), (.int 3 0), (R 746), (.bool true), (.int 181 0), (R 747), .none, (R 748), (R 749), (R 750), (.int 1200 0), (.int 269 0), (.str (Z "/claim/cut.py") 1201)]), #[]⟩
def o752c (P : Params) : Obj := ⟨(.type "function"), .none, (.func ⟨(Z "do_one"), (Z "Brain.do_one"), dA (ic (tp 56) 3), .stmts (dB (ic (tp 56) 3)), dS (ic (tp 56) 3), 3, [], .none, .none, .none, (.str (Z "heldground.steps") 1109), .none, (R 751), .none, 0⟩), #[]⟩
def o753c (P : Params) : Obj := ⟨(.type "tuple"), .none, (.seq #[] 0), #[]⟩
def o754c (P : Params) : Obj := ⟨.none, .none, (.fields #[]), #[]⟩
def o755c (P : Params) : Obj := ⟨(.type "tuple"), .none, (.seq #[(.str (Z "self") 1206), (.str (Z "row") 1207), (.str (Z "rests") 1208), (.str (Z "spot") 1209), (.str (Z "held") 1210)] 0), #[]⟩
def o756c (P : Params) : Obj := ⟨(.type "tuple"), .none, (.seq #[] 0), #[]⟩
def o757c (P : Params) : Obj := ⟨.none, .none, (.func ⟨(Z "noted"), (Z "Brain.noted"), dA (ic (tp 56) 4), .stmts (dB (ic (tp 56) 4)), dS (ic (tp 56) 4), 0, [], .none, .none, .none, .none, .none, .none, .none, 0⟩), #[]⟩
def o758c (P : Params) : Obj := ⟨(.type "code"), .none, (.fields #[(.str (Z "noted") 1203), (.str (Z "Brain.noted") 1204), (.str (Z "/claim/cut.py") 1205), (.int 285 0), (.int 3 0), (.int 0 0), (.int 0 0), (.int 3 0), (R 753), (.bool true), (.int 181 0), (R 754), .none, (R 755), (R 756), (R 757), (.int 1211 0), (.int 285 0), (.str (Z "/claim/cut.py") 1212)]), #[]⟩
def o759c (P : Params) : Obj := ⟨(.type "function"), .none, (.func ⟨(Z "noted"), (Z "Brain.noted"), dA (ic (tp 56) 4), .stmts (dB (ic (tp 56) 4)), dS (ic (tp 56) 4), 3, [], .none, .none, .none, (.str (Z "heldground.steps") 1109), .none, (R 758), .none, 0⟩), #[]⟩
def o760c (P : Params) : Obj := ⟨(.type "tuple"), .none, (.seq #[] 0), #[]⟩
def o761c (P : Params) : Obj := ⟨.none, .none, (.fields #[]), #[]⟩
def o762c (P : Params) : Obj := ⟨(.type "tuple"), .none, (.seq #[(.str (Z "self") 1217), (.str (Z "test") 1218), (.str (Z "now") 1219), (.str (Z "spot") 1220)] 0), #[]⟩
def o763c (P : Params) : Obj := ⟨(.type "tuple"), .none, (.seq #[] 0), #[]⟩
def o764c (P : Params) : Obj := ⟨.none, .none, (.func ⟨(Z "holds"), (Z "Brain.holds"), dA (ic (tp 56) 5), .stmts (dB (ic (tp 56) 5)), dS (ic (tp 56) 5), 0, [], .none, .none, .none, .none, .none, .none, .none, 0⟩), #[]⟩
def o765c (P : Params) : Obj := ⟨(.type "code"), .none, (.fields #[(.str (Z "holds") 1214), (.str (Z "Brain.holds") 1215), (.str (Z "/claim/cut.py") 1216), (.int 290 0), (.int 3 0), (.int 0 0), (.int 0 0), (.int 3 0), (R 760), (.bool true), (.int 181 0), (R 761), .none, (R 762), (R 763), (R 764), (.int 1221 0), (.int 290 0), (.str (Z "/claim/cut.py") 1222)]), #[]⟩
def o766c (P : Params) : Obj := ⟨(.type "function"), .none, (.func ⟨(Z "holds"), (Z "Brain.holds"), dA (ic (tp 56) 5), .stmts (dB (ic (tp 56) 5)), dS (ic (tp 56) 5), 3, [], .none, .none, .none, (.str (Z "heldground.steps") 1109), .none, (R 765), .none, 0⟩), #[]⟩
def o767c (P : Params) : Obj := ⟨(.type "tuple"), .none, (.seq #[(.str (Z "begin_rows") 1224), (.str (Z "moduli") 1225), (.str (Z "opening") 1226), (.str (Z "spots") 1227)] 0), #[]⟩
def o768c (P : Params) : Obj := ⟨(.type "dict"), .none, (.dict #[⟨PyData.keyHash P (Z "__module__"), (.str (Z "__module__") 1162), (.str (Z "heldground.steps") 1109)⟩, ⟨PyData.keyHash P (Z "__firstlineno__"), (.str (Z "__firstlineno__") 1166), (.int 251 1165)⟩, ⟨PyData.keyHash P (Z "__init__"), (.str (Z "__init__") 1172), (R 731)⟩, ⟨PyData.keyHash P (Z "choose"), (.str (Z "choose") 1183), (R 738)⟩, ⟨PyData.keyHash P (Z "do_rows"), (.str (Z "do_rows") 1193), (R 745)⟩, ⟨PyData.keyHash P (Z "do_one"), (.str (Z "do_one") 1202), (R 752)⟩, ⟨PyData.keyHash P (Z "noted"), (.str (Z "noted") 1213), (R 759)⟩, ⟨PyData.keyHash P (Z "holds"), (.str (Z "holds") 1223), (R 766)⟩, ⟨PyData.keyHash P (Z "__static_attributes__"), (.str (Z "__static_attributes__") 1228), (R 767)⟩, ⟨PyData.keyHash P (Z "__dict__"), (.str (Z "__dict__") 1230), (R 770)⟩, ⟨PyData.keyHash P (Z "__weakref__"), (.str (Z "__weakref__") 1232), (R 771)⟩, ⟨PyData.keyHash P (Z "__doc__"), (.str (Z "__doc__") 1233), .none⟩] 4), #[]⟩
def o769c (P : Params) : Obj := ⟨(.type "type"), .none, (.cls ⟨(Z "Brain"), [(.type "object")], [(R 769), (.type "object")], 768, (Z "Brain"), true, [], [], false, .none, false⟩), #[.none, .none, (.some (.str (Z "Brain") 1155)), (.some (.str (Z "Brain") 1163)), (.some (.builtin "object.__new__")), (.some (.bool true))]⟩
def o770c (P : Params) : Obj := ⟨(.type "getset_descriptor"), .none, (.fields #[(.str (Z "__dict__") 1229), (R 769), (.builtin "function.__dict__"), (.builtin "function.__dict__#set")]), #[]⟩
def o771c (P : Params) : Obj := ⟨(.type "getset_descriptor"), .none, (.fields #[(.str (Z "__weakref__") 1231), (R 769), (.builtin "ExceptionGroup.__weakref__"), .none]), #[]⟩
def o772c (P : Params) : Obj := ⟨(.type "super"), .none, (.fields #[(R 769), (R 769), (R 769)]), #[]⟩
def o773c (P : Params) : Obj := ⟨(.type "builtin_function_or_method"), .none, (.fields #[(.builtin "object.__init_subclass__"), (R 769)]), #[]⟩
def o774c (P : Params) : Obj := ⟨(.type "tuple"), .none, (.seq #[] 0), #[]⟩
def o775c (P : Params) : Obj := ⟨.none, .none, (.fields #[]), #[]⟩
def o776c (P : Params) : Obj := ⟨(.type "tuple"), .none, (.seq #[(.str (Z "test") 1239)] 0), #[]⟩
def o777c (P : Params) : Obj := ⟨(.type "tuple"), .none, (.seq #[] 0), #[]⟩
def o778c (P : Params) : Obj := ⟨.none, .none, (.func ⟨(Z "letter_of"), (Z "letter_of"), dA (tp 57), .stmts (dB (tp 57)), dS (tp 57), 0, [], .none, .none, .none, .none, .none, .none, .none, 0⟩), #[]⟩
def o779c (P : Params) : Obj := ⟨(.type "code"), .none, (.fields #[(.str (Z "letter_of") 1236), (.str (Z "letter_of") 1237), (.str (Z "/claim/cut.py") 1238), (.int 299 0), (.int 1 0), (.int 0 0), (.int 0 0), (.int 3 0), (R 774), (.bool true), (.int 181 0), (R 775), .none, (R 776), (R 777), (R 778), (.int 1240 0), (.int 299 0), (.str (Z "/claim/cut.py") 1241)]), #[]⟩
def o780c (P : Params) : Obj := ⟨(.type "function"), .none, (.func ⟨(Z "letter_of"), (Z "letter_of"), dA (tp 57), .stmts (dB (tp 57)), dS (tp 57), 3, [], .none, .none, .none, (.str (Z "heldground.steps") 1109), .none, (R 779), .none, 0⟩), #[]⟩
def o781c (P : Params) : Obj := ⟨(.type "tuple"), .none, (.seq #[] 0), #[]⟩
def o782c (P : Params) : Obj := ⟨.none, .none, (.fields #[]), #[]⟩
def o783c (P : Params) : Obj := ⟨(.type "tuple"), .none, (.seq #[(.str (Z "now") 1246), (.str (Z "slot") 1247), (.str (Z "letter") 1248)] 0), #[]⟩
def o784c (P : Params) : Obj := ⟨(.type "tuple"), .none, (.seq #[] 0), #[]⟩
def o785c (P : Params) : Obj := ⟨.none, .none, (.func ⟨(Z "oldest_slot"), (Z "oldest_slot"), dA (tp 58), .stmts (dB (tp 58)), dS (tp 58), 0, [], .none, .none, .none, .none, .none, .none, .none, 0⟩), #[]⟩
def o786c (P : Params) : Obj := ⟨(.type "code"), .none, (.fields #[(.str (Z "oldest_slot") 1243), (.str (Z "oldest_slot") 1244), (.str (Z "/claim/cut.py") 1245), (.int 305 0), (.int 1 0), (.int 0 0), (.int 0 0), (.int 3 0), (R 781), (.bool true), (.int 181 0), (R 782), .none, (R 783), (R 784), (R 785), (.int 1249 0), (.int 305 0), (.str (Z "/claim/cut.py") 1250)]), #[]⟩
def o787c (P : Params) : Obj := ⟨(.type "function"), .none, (.func ⟨(Z "oldest_slot"), (Z "oldest_slot"), dA (tp 58), .stmts (dB (tp 58)), dS (tp 58), 3, [], .none, .none, .none, (.str (Z "heldground.steps") 1109), .none, (R 786), .none, 0⟩), #[]⟩
def o788c (P : Params) : Obj := ⟨(.type "tuple"), .none, (.seq #[] 0), #[]⟩
def o789c (P : Params) : Obj := ⟨.none, .none, (.fields #[]), #[]⟩
def o790c (P : Params) : Obj := ⟨.none, .none, (.func ⟨(Z "ground_of"), (Z "ground_of"), dA (tp 59), .stmts (dB (tp 59)), dS (tp 59), 0, [], .none, .none, .none, .none, .none, .none, .none, 0⟩), #[]⟩
def o791c (P : Params) : Obj := ⟨(.type "code"), .none, (.fields #[(.str (Z "ground_of") 1252), (.str (Z "ground_of") 1253), (.str (Z "/claim/cut.py") 1254), (.int 310 0), (.int 2 0), (.int 0 0), (.int 0 0), (.int 3 0), (R 788), (.bool true), (.int 181 0), (R 789), .none, .none, .none, (R 790), (.int 1255 0), (.int 310 0), (.str (Z "/claim/cut.py") 1256)]), #[]⟩
def o792c (P : Params) : Obj := ⟨(.type "function"), .none, (.func ⟨(Z "ground_of"), (Z "ground_of"), dA (tp 59), .stmts (dB (tp 59)), dS (tp 59), 3, [], .none, .none, .none, (.str (Z "heldground.steps") 1109), .none, (R 791), .none, 0⟩), #[]⟩
def o793c (P : Params) : Obj := ⟨(.type "tuple"), .none, (.seq #[] 0), #[]⟩
def o794c (P : Params) : Obj := ⟨.none, .none, (.fields #[]), #[]⟩
def o795c (P : Params) : Obj := ⟨(.type "tuple"), .none, (.seq #[(.str (Z "chooser") 1271), (.str (Z "slots") 1272)] 0), #[]⟩
def o796c (P : Params) : Obj := ⟨(.type "tuple"), .none, (.seq #[] 0), #[]⟩
def o797c (P : Params) : Obj := ⟨.none, .none, (.func ⟨(Z "need_room"), (Z "need_room"), dA (tp 65), .stmts (dB (tp 65)), dS (tp 65), 0, [], .none, .none, .none, .none, .none, .none, .none, 0⟩), #[]⟩
def o798c (P : Params) : Obj := ⟨(.type "code"), .none, (.fields #[(.str (Z "need_room") 1268), (.str (Z "need_room") 1269), (.str (Z "/claim/cut.py") 1270), (.int 325 0), (.int 2 0), (.int 0 0), (.int 0 0), (.int 3 0), (R 793), (.bool true), (.int 181 0), (R 794), .none, (R 795), (R 796), (R 797), (.int 1273 0), (.int 325 0), (.str (Z "/claim/cut.py") 1274)]), #[]⟩
def o799c (P : Params) : Obj := ⟨(.type "function"), .none, (.func ⟨(Z "need_room"), (Z "need_room"), dA (tp 65), .stmts (dB (tp 65)), dS (tp 65), 3, [], .none, .none, .none, (.str (Z "heldground.runs") 1258), .none, (R 798), .none, 0⟩), #[]⟩
def o800c (P : Params) : Obj := ⟨(.type "tuple"), .none, (.seq #[] 0), #[]⟩
def o801c (P : Params) : Obj := ⟨.none, .none, (.fields #[]), #[]⟩
def o802c (P : Params) : Obj := ⟨(.type "tuple"), .none, (.seq #[(.str (Z "value") 1279)] 0), #[]⟩
def o803c (P : Params) : Obj := ⟨(.type "tuple"), .none, (.seq #[] 0), #[]⟩
def o804c (P : Params) : Obj := ⟨.none, .none, (.func ⟨(Z "is_turn"), (Z "is_turn"), dA (tp 66), .stmts (dB (tp 66)), dS (tp 66), 0, [], .none, .none, .none, .none, .none, .none, .none, 0⟩), #[]⟩
def o805c (P : Params) : Obj := ⟨(.type "code"), .none, (.fields #[(.str (Z "is_turn") 1276), (.str (Z "is_turn") 1277), (.str (Z "/claim/cut.py") 1278), (.int 328 0), (.int 1 0), (.int 0 0), (.int 0 0), (.int 3 0), (R 800), (.bool true), (.int 181 0), (R 801), .none, (R 802), (R 803), (R 804), (.int 1280 0), (.int 328 0), (.str (Z "/claim/cut.py") 1281)]), #[]⟩
def o806c (P : Params) : Obj := ⟨(.type "function"), .none, (.func ⟨(Z "is_turn"), (Z "is_turn"), dA (tp 66), .stmts (dB (tp 66)), dS (tp 66), 3, [], .none, .none, .none, (.str (Z "heldground.runs") 1258), .none, (R 805), .none, 0⟩), #[]⟩
def o807c (P : Params) : Obj := ⟨(.type "tuple"), .none, (.seq #[] 0), #[]⟩
def o808c (P : Params) : Obj := ⟨(.type "builtin_function_or_method"), .none, (.fields #[(.builtin "type.__prepare__"), (.type "type")]), #[]⟩
def o809c (P : Params) : Obj := ⟨(.type "dict"), .none, (.dict #[⟨PyData.keyHash P (Z "__module__"), (.str (Z "__module__") 1290), (.str (Z "heldground.runs") 1258)⟩, ⟨PyData.keyHash P (Z "__qualname__"), (.str (Z "__qualname__") 1292), (.str (Z "Made") 1291)⟩, ⟨PyData.keyHash P (Z "__firstlineno__"), (.str (Z "__firstlineno__") 1294), (.int 332 1293)⟩, ⟨PyData.keyHash P (Z "__init__"), (.str (Z "__init__") 1303), (R 820)⟩, ⟨PyData.keyHash P (Z "is_broken"), (.str (Z "is_broken") 1310), (R 827)⟩, ⟨PyData.keyHash P (Z "__static_attributes__"), (.str (Z "__static_attributes__") 1313), (R 828)⟩] 6), #[]⟩
def o810c (P : Params) : Obj := ⟨(.type "tuple"), .none, (.seq #[] 0), #[]⟩
def o811c (P : Params) : Obj := ⟨.none, .none, (.fields #[(.int 334 0), (.int 4 0), (R 819), (.int 338 0), (.int 4 0), (R 826)]), #[]⟩
def o812c (P : Params) : Obj := ⟨(.type "code"), .none, (.fields #[(.str (Z "Made") 1285), (.str (Z "Made") 1286), (.str (Z "/claim/cut.py") 1287), (.int 332 0), (.int 0 0), (.int 0 0), (.int 0 0), (.int 0 0), (R 810), (.bool false), (.int 181 0), (R 811), .none, .none, .none, .none, (.int 1288 0), (.int 332 0), (.str (Z "/claim/cut.py") 1289)]), #[]⟩
def o813c (P : Params) : Obj := ⟨(.type "frame"), .none, .plain, #[(.some (R 812)), (.some (R 3)), (.some (R 809)), .none, (.some (.str (Z "heldground.runs") 1258)), .none, (.some (R 0))]⟩
def o814c (P : Params) : Obj := ⟨(.type "tuple"), .none, (.seq #[] 0), #[]⟩
def o815c (P : Params) : Obj := ⟨.none, .none, (.fields #[]), #[]⟩
def o816c (P : Params) : Obj := ⟨(.type "tuple"), .none, (.seq #[(.str (Z "self") 1298), (.str (Z "number") 1299), (.str (Z "shown") 1300)] 0), #[]⟩
def o817c (P : Params) : Obj := ⟨(.type "tuple"), .none, (.seq #[] 0), #[]⟩
def o818c (P : Params) : Obj := ⟨.none, .none, (.func ⟨(Z "__init__"), (Z "Made.__init__"), dA (ic (tp 67) 0), .stmts (dB (ic (tp 67) 0)), dS (ic (tp 67) 0), 0, [], .none, .none, .none, .none, .none, .none, .none, 0⟩), #[]⟩
def o819c (P : Params) : Obj := ⟨(.type "code"), .none, (.fields #[(.str (Z "__init__") 1295), (.str (Z "Made.__init__") 1296), (.str (Z "/claim/cut.py") 1297), (.int 334 0), (.int 3 0), (.int 0 0), (.int 0 0), (.int 3 0), (R 814), (.bool true), (.int 181 0), (R 815), .none, (R 816), (R 817), (R 818), (.int 1301 0), (.int 334 0), (.str (Z "/claim/cut.py") 1302)]), #[]⟩
def o820c (P : Params) : Obj := ⟨(.type "function"), .none, (.func ⟨(Z "__init__"), (Z "Made.__init__"), dA (ic (tp 67) 0), .stmts (dB (ic (tp 67) 0)), dS (ic (tp 67) 0), 3, [], .none, .none, .none, (.str (Z "heldground.runs") 1258), .none, (R 819), .none, 0⟩), #[]⟩
def o821c (P : Params) : Obj := ⟨(.type "tuple"), .none, (.seq #[] 0), #[]⟩
def o822c (P : Params) : Obj := ⟨.none, .none, (.fields #[]), #[]⟩
def o823c (P : Params) : Obj := ⟨(.type "tuple"), .none, (.seq #[(.str (Z "self") 1307)] 0), #[]⟩
def o824c (P : Params) : Obj := ⟨(.type "tuple"), .none, (.seq #[] 0), #[]⟩
def o825c (P : Params) : Obj := ⟨.none, .none, (.func ⟨(Z "is_broken"), (Z "Made.is_broken"), dA (ic (tp 67) 1), .stmts (dB (ic (tp 67) 1)), dS (ic (tp 67) 1), 0, [], .none, .none, .none, .none, .none, .none, .none, 0⟩), #[]⟩
def o826c (P : Params) : Obj := ⟨(.type "code"), .none, (.fields #[(.str (Z "is_broken") 1304), (.str (Z "Made.is_broken") 1305), (.str (Z "/claim/cut.py") 1306), (.int 338 0), (.int 1 0), (.int 0 0), (.int 0 0), (.int 3 0), (R 821), (.bool true), (.int 181 0), (R 822), .none, (R 823), (R 824), (R 825), (.int 1308 0), (.int 338 0), (.str (Z "/claim/cut.py") 1309)]), #[]⟩
def o827c (P : Params) : Obj := ⟨(.type "function"), .none, (.func ⟨(Z "is_broken"), (Z "Made.is_broken"), dA (ic (tp 67) 1), .stmts (dB (ic (tp 67) 1)), dS (ic (tp 67) 1), 3, [], .none, .none, .none, (.str (Z "heldground.runs") 1258), .none, (R 826), .none, 0⟩), #[]⟩
def o828c (P : Params) : Obj := ⟨(.type "tuple"), .none, (.seq #[(.str (Z "number") 1311), (.str (Z "shown_as") 1312)] 0), #[]⟩
def o829c (P : Params) : Obj := ⟨(.type "dict"), .none, (.dict #[⟨PyData.keyHash P (Z "__module__"), (.str (Z "__module__") 1290), (.str (Z "heldground.runs") 1258)⟩, ⟨PyData.keyHash P (Z "__firstlineno__"), (.str (Z "__firstlineno__") 1294), (.int 332 1293)⟩, ⟨PyData.keyHash P (Z "__init__"), (.str (Z "__init__") 1303), (R 820)⟩, ⟨PyData.keyHash P (Z "is_broken"), (.str (Z "is_broken") 1310), (R 827)⟩, ⟨PyData.keyHash P (Z "__static_attributes__"), (.str (Z "__static_attributes__") 1313), (R 828)⟩, ⟨PyData.keyHash P (Z "__dict__"), (.str (Z "__dict__") 1315), (R 831)⟩, ⟨PyData.keyHash P (Z "__weakref__"), (.str (Z "__weakref__") 1317), (R 832)⟩, ⟨PyData.keyHash P (Z "__doc__"), (.str (Z "__doc__") 1318), .none⟩] 4), #[]⟩
def o830c (P : Params) : Obj := ⟨(.type "type"), .none, (.cls ⟨(Z "Made"), [(.type "object")], [(R 830), (.type "object")], 829, (Z "Made"), true, [], [], false, .none, false⟩), #[.none, .none, (.some (.str (Z "Made") 1283)), (.some (.str (Z "Made") 1291)), (.some (.builtin "object.__new__")), (.some (.bool true))]⟩
def o831c (P : Params) : Obj := ⟨(.type "getset_descriptor"), .none, (.fields #[(.str (Z "__dict__") 1314), (R 830), (.builtin "function.__dict__"), (.builtin "function.__dict__#set")]), #[]⟩
def o832c (P : Params) : Obj := ⟨(.type "getset_descriptor"), .none, (.fields #[(.str (Z "__weakref__") 1316), (R 830), (.builtin "ExceptionGroup.__weakref__"), .none]), #[]⟩
def o833c (P : Params) : Obj := ⟨(.type "super"), .none, (.fields #[(R 830), (R 830), (R 830)]), #[]⟩
def o834c (P : Params) : Obj := ⟨(.type "builtin_function_or_method"), .none, (.fields #[(.builtin "object.__init_subclass__"), (R 830)]), #[]⟩
def tc (P : Params) : BT := (N (boot_o_0 P) (N (boot_o_1 P) (N (o3c P) (N (boot_o_7 P) (N (o15b P) (N (o31b P) (N (o63b P) (N (o127b P) (N (o255b P) (N (o511c P) O O) (N (o767c P) O O)) (N (o383b P) (N (o639c P) O O) O)) (N (o191b P) (N (o319b P) (N (o575c P) O O) (N (o831c P) O O)) (N (o447c P) (N (o703c P) O O) O))) (N (o95b P) (N (o159b P) (N (o287b P) (N (o543c P) O O) (N (o799c P) O O)) (N (o415b P) (N (o671c P) O O) O)) (N (o223b P) (N (o351b P) (N (o607c P) O O) O) (N (o479c P) (N (o735c P) O O) O)))) (N (o47b P) (N (o79b P) (N (o143b P) (N (o271b P) (N (o527c P) O O) (N (o783c P) O O)) (N (o399b P) (N (o655c P) O O) O)) (N (o207b P) (N (o335b P) (N (o591c P) O O) O) (N (o463c P) (N (o719c P) O O) O))) (N (o111b P) (N (o175b P) (N (o303b P) (N (o559c P) O O) (N (o815c P) O O)) (N (o431c P) (N (o687c P) O O) O)) (N (o239b P) (N (o367b P) (N (o623c P) O O) O) (N (o495c P) (N (o751c P) O O) O))))) (N (o23b P) (N (o39b P) (N (o71b P) (N (o135b P) (N (o263b P) (N (o519c P) O O) (N (o775c P) O O)) (N (o391b P) (N (o647c P) O O) O)) (N (o199b P) (N (o327b P) (N (o583c P) O O) O) (N (o455c P) (N (o711c P) O O) O))) (N (o103b P) (N (o167b P) (N (o295b P) (N (o551c P) O O) (N (o807c P) O O)) (N (o423b P) (N (o679c P) O O) O)) (N (o231b P) (N (o359b P) (N (o615c P) O O) O) (N (o487c P) (N (o743c P) O O) O)))) (N (o55b P) (N (o87b P) (N (o151b P) (N (o279b P) (N (o535c P) O O) (N (o791c P) O O)) (N (o407b P) (N (o663c P) O O) O)) (N (o215b P) (N (o343b P) (N (o599c P) O O) O) (N (o471c P) (N (o727c P) O O) O))) (N (o119b P) (N (o183b P) (N (o311b P) (N (o567c P) O O) (N (o823c P) O O)) (N (o439c P) (N (o695c P) O O) O)) (N (o247b P) (N (o375b P) (N (o631c P) O O) O) (N (o503c P) (N (o759c P) O O) O)))))) (N (o11a P) (N (o19b P) (N (o35b P) (N (o67b P) (N (o131b P) (N (o259b P) (N (o515c P) O O) (N (o771c P) O O)) (N (o387b P) (N (o643c P) O O) O)) (N (o195b P) (N (o323b P) (N (o579c P) O O) O) (N (o451c P) (N (o707c P) O O) O))) (N (o99b P) (N (o163b P) (N (o291b P) (N (o547c P) O O) (N (o803c P) O O)) (N (o419b P) (N (o675c P) O O) O)) (N (o227b P) (N (o355b P) (N (o611c P) O O) O) (N (o483c P) (N (o739c P) O O) O)))) (N (o51b P) (N (o83b P) (N (o147b P) (N (o275b P) (N (o531c P) O O) (N (o787c P) O O)) (N (o403b P) (N (o659c P) O O) O)) (N (o211b P) (N (o339b P) (N (o595c P) O O) O) (N (o467c P) (N (o723c P) O O) O))) (N (o115b P) (N (o179b P) (N (o307b P) (N (o563c P) O O) (N (o819c P) O O)) (N (o435c P) (N (o691c P) O O) O)) (N (o243b P) (N (o371b P) (N (o627c P) O O) O) (N (o499c P) (N (o755c P) O O) O))))) (N (o27b P) (N (o43b P) (N (o75b P) (N (o139b P) (N (o267b P) (N (o523c P) O O) (N (o779c P) O O)) (N (o395b P) (N (o651c P) O O) O)) (N (o203b P) (N (o331b P) (N (o587c P) O O) O) (N (o459c P) (N (o715c P) O O) O))) (N (o107b P) (N (o171b P) (N (o299b P) (N (o555c P) O O) (N (o811c P) O O)) (N (o427c P) (N (o683c P) O O) O)) (N (o235b P) (N (o363b P) (N (o619c P) O O) O) (N (o491c P) (N (o747c P) O O) O)))) (N (o59b P) (N (o91b P) (N (o155b P) (N (o283b P) (N (o539c P) O O) (N (o795c P) O O)) (N (o411b P) (N (o667c P) O O) O)) (N (o219b P) (N (o347b P) (N (o603c P) O O) O) (N (o475c P) (N (o731c P) O O) O))) (N (o123b P) (N (o187b P) (N (o315b P) (N (o571c P) O O) (N (o827c P) O O)) (N (o443c P) (N (o699c P) O O) O)) (N (o251b P) (N (o379b P) (N (o635c P) O O) O) (N (o507c P) (N (o763c P) O O) O))))))) (N (boot_o_5 P) (N (boot_o_9 P) (N (o17b P) (N (o33b P) (N (o65b P) (N (o129b P) (N (o257b P) (N (o513c P) O O) (N (o769c P) O O)) (N (o385b P) (N (o641c P) O O) O)) (N (o193b P) (N (o321b P) (N (o577c P) O O) (N (o833c P) O O)) (N (o449c P) (N (o705c P) O O) O))) (N (o97b P) (N (o161b P) (N (o289b P) (N (o545c P) O O) (N (o801c P) O O)) (N (o417b P) (N (o673c P) O O) O)) (N (o225b P) (N (o353b P) (N (o609c P) O O) O) (N (o481c P) (N (o737c P) O O) O)))) (N (o49b P) (N (o81b P) (N (o145b P) (N (o273b P) (N (o529c P) O O) (N (o785c P) O O)) (N (o401b P) (N (o657c P) O O) O)) (N (o209b P) (N (o337b P) (N (o593c P) O O) O) (N (o465c P) (N (o721c P) O O) O))) (N (o113b P) (N (o177b P) (N (o305b P) (N (o561c P) O O) (N (o817c P) O O)) (N (o433c P) (N (o689c P) O O) O)) (N (o241b P) (N (o369b P) (N (o625c P) O O) O) (N (o497c P) (N (o753c P) O O) O))))) (N (o25b P) (N (o41b P) (N (o73b P) (N (o137b P) (N (o265b P) (N (o521c P) O O) (N (o777c P) O O)) (N (o393b P) (N (o649c P) O O) O)) (N (o201b P) (N (o329b P) (N (o585c P) O O) O) (N (o457c P) (N (o713c P) O O) O))) (N (o105b P) (N (o169b P) (N (o297b P) (N (o553c P) O O) (N (o809c P) O O)) (N (o425c P) (N (o681c P) O O) O)) (N (o233b P) (N (o361b P) (N (o617c P) O O) O) (N (o489c P) (N (o745c P) O O) O)))) (N (o57b P) (N (o89b P) (N (o153b P) (N (o281b P) (N (o537c P) O O) (N (o793c P) O O)) (N (o409b P) (N (o665c P) O O) O)) (N (o217b P) (N (o345b P) (N (o601c P) O O) O) (N (o473c P) (N (o729c P) O O) O))) (N (o121b P) (N (o185b P) (N (o313b P) (N (o569c P) O O) (N (o825c P) O O)) (N (o441c P) (N (o697c P) O O) O)) (N (o249b P) (N (o377b P) (N (o633c P) O O) O) (N (o505c P) (N (o761c P) O O) O)))))) (N (o13a P) (N (o21b P) (N (o37b P) (N (o69b P) (N (o133b P) (N (o261b P) (N (o517c P) O O) (N (o773c P) O O)) (N (o389b P) (N (o645c P) O O) O)) (N (o197b P) (N (o325b P) (N (o581c P) O O) O) (N (o453c P) (N (o709c P) O O) O))) (N (o101b P) (N (o165b P) (N (o293b P) (N (o549c P) O O) (N (o805c P) O O)) (N (o421b P) (N (o677c P) O O) O)) (N (o229b P) (N (o357b P) (N (o613c P) O O) O) (N (o485c P) (N (o741c P) O O) O)))) (N (o53b P) (N (o85b P) (N (o149b P) (N (o277b P) (N (o533c P) O O) (N (o789c P) O O)) (N (o405b P) (N (o661c P) O O) O)) (N (o213b P) (N (o341b P) (N (o597c P) O O) O) (N (o469c P) (N (o725c P) O O) O))) (N (o117b P) (N (o181b P) (N (o309b P) (N (o565c P) O O) (N (o821c P) O O)) (N (o437c P) (N (o693c P) O O) O)) (N (o245b P) (N (o373b P) (N (o629c P) O O) O) (N (o501c P) (N (o757c P) O O) O))))) (N (o29b P) (N (o45b P) (N (o77b P) (N (o141b P) (N (o269b P) (N (o525c P) O O) (N (o781c P) O O)) (N (o397b P) (N (o653c P) O O) O)) (N (o205b P) (N (o333b P) (N (o589c P) O O) O) (N (o461c P) (N (o717c P) O O) O))) (N (o109b P) (N (o173b P) (N (o301b P) (N (o557c P) O O) (N (o813c P) O O)) (N (o429c P) (N (o685c P) O O) O)) (N (o237b P) (N (o365b P) (N (o621c P) O O) O) (N (o493c P) (N (o749c P) O O) O)))) (N (o61b P) (N (o93b P) (N (o157b P) (N (o285b P) (N (o541c P) O O) (N (o797c P) O O)) (N (o413b P) (N (o669c P) O O) O)) (N (o221b P) (N (o349b P) (N (o605c P) O O) O) (N (o477c P) (N (o733c P) O O) O))) (N (o125b P) (N (o189b P) (N (o317b P) (N (o573c P) O O) (N (o829c P) O O)) (N (o445c P) (N (o701c P) O O) O)) (N (o253b P) (N (o381b P) (N (o637c P) O O) O) (N (o509c P) (N (o765c P) O O) O)))))))) (N (boot_o_2 P) (N (boot_o_4 P) (N (boot_o_8 P) (N (o16b P) (N (o32b P) (N (o64b P) (N (o128b P) (N (o256b P) (N (o512c P) O O) (N (o768c P) O O)) (N (o384b P) (N (o640c P) O O) O)) (N (o192b P) (N (o320b P) (N (o576c P) O O) (N (o832c P) O O)) (N (o448c P) (N (o704c P) O O) O))) (N (o96b P) (N (o160b P) (N (o288b P) (N (o544c P) O O) (N (o800c P) O O)) (N (o416b P) (N (o672c P) O O) O)) (N (o224b P) (N (o352b P) (N (o608c P) O O) O) (N (o480c P) (N (o736c P) O O) O)))) (N (o48b P) (N (o80b P) (N (o144b P) (N (o272b P) (N (o528c P) O O) (N (o784c P) O O)) (N (o400b P) (N (o656c P) O O) O)) (N (o208b P) (N (o336b P) (N (o592c P) O O) O) (N (o464c P) (N (o720c P) O O) O))) (N (o112b P) (N (o176b P) (N (o304b P) (N (o560c P) O O) (N (o816c P) O O)) (N (o432c P) (N (o688c P) O O) O)) (N (o240b P) (N (o368b P) (N (o624c P) O O) O) (N (o496c P) (N (o752c P) O O) O))))) (N (o24b P) (N (o40b P) (N (o72b P) (N (o136b P) (N (o264b P) (N (o520c P) O O) (N (o776c P) O O)) (N (o392b P) (N (o648c P) O O) O)) (N (o200b P) (N (o328b P) (N (o584c P) O O) O) (N (o456c P) (N (o712c P) O O) O))) (N (o104b P) (N (o168b P) (N (o296b P) (N (o552c P) O O) (N (o808c P) O O)) (N (o424c P) (N (o680c P) O O) O)) (N (o232b P) (N (o360b P) (N (o616c P) O O) O) (N (o488c P) (N (o744c P) O O) O)))) (N (o56b P) (N (o88b P) (N (o152b P) (N (o280b P) (N (o536c P) O O) (N (o792c P) O O)) (N (o408b P) (N (o664c P) O O) O)) (N (o216b P) (N (o344b P) (N (o600c P) O O) O) (N (o472c P) (N (o728c P) O O) O))) (N (o120b P) (N (o184b P) (N (o312b P) (N (o568c P) O O) (N (o824c P) O O)) (N (o440c P) (N (o696c P) O O) O)) (N (o248b P) (N (o376b P) (N (o632c P) O O) O) (N (o504c P) (N (o760c P) O O) O)))))) (N (o12c P) (N (o20b P) (N (o36b P) (N (o68b P) (N (o132b P) (N (o260b P) (N (o516c P) O O) (N (o772c P) O O)) (N (o388b P) (N (o644c P) O O) O)) (N (o196b P) (N (o324b P) (N (o580c P) O O) O) (N (o452c P) (N (o708c P) O O) O))) (N (o100b P) (N (o164b P) (N (o292b P) (N (o548c P) O O) (N (o804c P) O O)) (N (o420b P) (N (o676c P) O O) O)) (N (o228b P) (N (o356b P) (N (o612c P) O O) O) (N (o484c P) (N (o740c P) O O) O)))) (N (o52b P) (N (o84b P) (N (o148b P) (N (o276b P) (N (o532c P) O O) (N (o788c P) O O)) (N (o404b P) (N (o660c P) O O) O)) (N (o212b P) (N (o340b P) (N (o596c P) O O) O) (N (o468c P) (N (o724c P) O O) O))) (N (o116b P) (N (o180b P) (N (o308b P) (N (o564c P) O O) (N (o820c P) O O)) (N (o436c P) (N (o692c P) O O) O)) (N (o244b P) (N (o372b P) (N (o628c P) O O) O) (N (o500c P) (N (o756c P) O O) O))))) (N (o28b P) (N (o44b P) (N (o76b P) (N (o140b P) (N (o268b P) (N (o524c P) O O) (N (o780c P) O O)) (N (o396b P) (N (o652c P) O O) O)) (N (o204b P) (N (o332b P) (N (o588c P) O O) O) (N (o460c P) (N (o716c P) O O) O))) (N (o108b P) (N (o172b P) (N (o300b P) (N (o556c P) O O) (N (o812c P) O O)) (N (o428c P) (N (o684c P) O O) O)) (N (o236b P) (N (o364b P) (N (o620c P) O O) O) (N (o492c P) (N (o748c P) O O) O)))) (N (o60b P) (N (o92b P) (N (o156b P) (N (o284b P) (N (o540c P) O O) (N (o796c P) O O)) (N (o412b P) (N (o668c P) O O) O)) (N (o220b P) (N (o348b P) (N (o604c P) O O) O) (N (o476c P) (N (o732c P) O O) O))) (N (o124b P) (N (o188b P) (N (o316b P) (N (o572c P) O O) (N (o828c P) O O)) (N (o444c P) (N (o700c P) O O) O)) (N (o252b P) (N (o380b P) (N (o636c P) O O) O) (N (o508c P) (N (o764c P) O O) O))))))) (N (boot_o_6 P) (N (boot_o_10 P) (N (o18b P) (N (o34b P) (N (o66b P) (N (o130b P) (N (o258b P) (N (o514c P) O O) (N (o770c P) O O)) (N (o386b P) (N (o642c P) O O) O)) (N (o194b P) (N (o322b P) (N (o578c P) O O) (N (o834c P) O O)) (N (o450c P) (N (o706c P) O O) O))) (N (o98b P) (N (o162b P) (N (o290b P) (N (o546c P) O O) (N (o802c P) O O)) (N (o418b P) (N (o674c P) O O) O)) (N (o226b P) (N (o354b P) (N (o610c P) O O) O) (N (o482c P) (N (o738c P) O O) O)))) (N (o50b P) (N (o82b P) (N (o146b P) (N (o274b P) (N (o530c P) O O) (N (o786c P) O O)) (N (o402b P) (N (o658c P) O O) O)) (N (o210b P) (N (o338b P) (N (o594c P) O O) O) (N (o466c P) (N (o722c P) O O) O))) (N (o114b P) (N (o178b P) (N (o306b P) (N (o562c P) O O) (N (o818c P) O O)) (N (o434c P) (N (o690c P) O O) O)) (N (o242b P) (N (o370b P) (N (o626c P) O O) O) (N (o498c P) (N (o754c P) O O) O))))) (N (o26b P) (N (o42b P) (N (o74b P) (N (o138b P) (N (o266b P) (N (o522c P) O O) (N (o778c P) O O)) (N (o394b P) (N (o650c P) O O) O)) (N (o202b P) (N (o330b P) (N (o586c P) O O) O) (N (o458c P) (N (o714c P) O O) O))) (N (o106b P) (N (o170b P) (N (o298b P) (N (o554c P) O O) (N (o810c P) O O)) (N (o426c P) (N (o682c P) O O) O)) (N (o234b P) (N (o362b P) (N (o618c P) O O) O) (N (o490c P) (N (o746c P) O O) O)))) (N (o58b P) (N (o90b P) (N (o154b P) (N (o282c P) (N (o538c P) O O) (N (o794c P) O O)) (N (o410b P) (N (o666c P) O O) O)) (N (o218b P) (N (o346b P) (N (o602c P) O O) O) (N (o474c P) (N (o730c P) O O) O))) (N (o122b P) (N (o186b P) (N (o314b P) (N (o570c P) O O) (N (o826c P) O O)) (N (o442c P) (N (o698c P) O O) O)) (N (o250b P) (N (o378b P) (N (o634c P) O O) O) (N (o506c P) (N (o762c P) O O) O)))))) (N (o14a P) (N (o22b P) (N (o38b P) (N (o70b P) (N (o134b P) (N (o262b P) (N (o518c P) O O) (N (o774c P) O O)) (N (o390b P) (N (o646c P) O O) O)) (N (o198b P) (N (o326b P) (N (o582c P) O O) O) (N (o454c P) (N (o710c P) O O) O))) (N (o102b P) (N (o166b P) (N (o294c P) (N (o550c P) O O) (N (o806c P) O O)) (N (o422b P) (N (o678c P) O O) O)) (N (o230b P) (N (o358b P) (N (o614c P) O O) O) (N (o486c P) (N (o742c P) O O) O)))) (N (o54b P) (N (o86b P) (N (o150b P) (N (o278b P) (N (o534c P) O O) (N (o790c P) O O)) (N (o406b P) (N (o662c P) O O) O)) (N (o214b P) (N (o342b P) (N (o598c P) O O) O) (N (o470c P) (N (o726c P) O O) O))) (N (o118b P) (N (o182b P) (N (o310b P) (N (o566c P) O O) (N (o822c P) O O)) (N (o438c P) (N (o694c P) O O) O)) (N (o246b P) (N (o374b P) (N (o630c P) O O) O) (N (o502c P) (N (o758c P) O O) O))))) (N (o30b P) (N (o46b P) (N (o78b P) (N (o142b P) (N (o270b P) (N (o526c P) O O) (N (o782c P) O O)) (N (o398b P) (N (o654c P) O O) O)) (N (o206b P) (N (o334b P) (N (o590c P) O O) O) (N (o462c P) (N (o718c P) O O) O))) (N (o110b P) (N (o174b P) (N (o302b P) (N (o558c P) O O) (N (o814c P) O O)) (N (o430c P) (N (o686c P) O O) O)) (N (o238b P) (N (o366b P) (N (o622c P) O O) O) (N (o494c P) (N (o750c P) O O) O)))) (N (o62b P) (N (o94b P) (N (o158b P) (N (o286b P) (N (o542c P) O O) (N (o798c P) O O)) (N (o414b P) (N (o670c P) O O) O)) (N (o222b P) (N (o350b P) (N (o606c P) O O) O) (N (o478c P) (N (o734c P) O O) O))) (N (o126b P) (N (o190b P) (N (o318b P) (N (o574c P) O O) (N (o830c P) O O)) (N (o446c P) (N (o702c P) O O) O)) (N (o254b P) (N (o382b P) (N (o638c P) O O) O) (N (o510c P) (N (o766c P) O O) O)))))))))
def Sc (w : World) (os : OsState) : SharedT := ⟨tc w.params, 835, (boot_heap w.params).life, #[], boot_drawn, 1321, os⟩
def o3z (P : Params) : Obj := ⟨(.type "dict"), .none, (.dict #[⟨PyData.keyHash P (Z "__name__"), (.str (Z "__name__") 165), (.str (Z "law_heldground_k23_histories_compared") 1939)⟩, ⟨PyData.keyHash P (Z "__doc__"), (.str (Z "__doc__") 166), .none⟩, ⟨PyData.keyHash P (Z "__package__"), (.str (Z "__package__") 167), .none⟩, ⟨PyData.keyHash P (Z "__loader__"), (.str (Z "__loader__") 168), (.builtin "__main__.__loader__#opaque")⟩, ⟨PyData.keyHash P (Z "__spec__"), (.str (Z "__spec__") 169), .none⟩, ⟨PyData.keyHash P (Z "__annotations__"), (.str (Z "__annotations__") 170), (R 6)⟩, ⟨PyData.keyHash P (Z "__builtins__"), (.str (Z "__builtins__") 171), (R 4)⟩, ⟨PyData.keyHash P (Z "__file__"), (.str (Z "__file__") 173), (.str (Z "/claim/cut.py") 172)⟩, ⟨PyData.keyHash P (Z "__cached__"), (.str (Z "__cached__") 174), .none⟩, ⟨PyData.keyHash P (Z "_wall"), (.str (Z "_wall") 193), (R 21)⟩, ⟨PyData.keyHash P (Z "GroundError"), (.str (Z "GroundError") 213), (R 31)⟩, ⟨PyData.keyHash P (Z "InvalidRow"), (.str (Z "InvalidRow") 238), (R 51)⟩, ⟨PyData.keyHash P (Z "InvalidChooser"), (.str (Z "InvalidChooser") 263), (R 70)⟩, ⟨PyData.keyHash P (Z "InvalidHouse"), (.str (Z "InvalidHouse") 288), (R 89)⟩, ⟨PyData.keyHash P (Z "InvalidTurn"), (.str (Z "InvalidTurn") 313), (R 108)⟩, ⟨PyData.keyHash P (Z "NoRow"), (.str (Z "NoRow") 338), (R 127)⟩, ⟨PyData.keyHash P (Z "NoNote"), (.str (Z "NoNote") 363), (R 146)⟩, ⟨PyData.keyHash P (Z "Mismatch"), (.str (Z "Mismatch") 386), (R 165)⟩, ⟨PyData.keyHash P (Z "LETTERS"), (.str (Z "LETTERS") 390), (.str (Z "abcdefghijklmnopqrstuvwxyz") 389)⟩, ⟨PyData.keyHash P (Z "DIGITS"), (.str (Z "DIGITS") 392), (.str (Z "0123456789") 391)⟩, ⟨PyData.keyHash P (Z "BARRED"), (.str (Z "BARRED") 399), (R 168)⟩, ⟨PyData.keyHash P (Z "MOST_LETTERS"), (.str (Z "MOST_LETTERS") 401), (.int 4 400)⟩, ⟨PyData.keyHash P (Z "MOST_DIGITS"), (.str (Z "MOST_DIGITS") 403), (.int 6 402)⟩, ⟨PyData.keyHash P (Z "is_integer"), (.str (Z "is_integer") 410), (R 175)⟩, ⟨PyData.keyHash P (Z "is_from"), (.str (Z "is_from") 419), (R 182)⟩, ⟨PyData.keyHash P (Z "is_name"), (.str (Z "is_name") 425), (R 187)⟩, ⟨PyData.keyHash P (Z "number_of"), (.str (Z "number_of") 431), (R 192)⟩, ⟨PyData.keyHash P (Z "LAST_SLOT"), (.str (Z "LAST_SLOT") 435), (.int 2 434)⟩, ⟨PyData.keyHash P (Z "need_slot"), (.str (Z "need_slot") 442), (R 199)⟩, ⟨PyData.keyHash P (Z "need_name"), (.str (Z "need_name") 449), (R 206)⟩, ⟨PyData.keyHash P (Z "need_number"), (.str (Z "need_number") 456), (R 213)⟩, ⟨PyData.keyHash P (Z "need_test"), (.str (Z "need_test") 463), (R 220)⟩, ⟨PyData.keyHash P (Z "need_rows"), (.str (Z "need_rows") 471), (R 227)⟩, ⟨PyData.keyHash P (Z "Part"), (.str (Z "Part") 522), (R 261)⟩, ⟨PyData.keyHash P (Z "Row"), (.str (Z "Row") 545), (R 282)⟩, ⟨PyData.keyHash P (Z "Test"), (.str (Z "Test") 561), (R 294)⟩, ⟨PyData.keyHash P (Z "Whole"), (.str (Z "Whole") 588), (R 315)⟩, ⟨PyData.keyHash P (Z "From"), (.str (Z "From") 619), (R 337)⟩, ⟨PyData.keyHash P (Z "Newest"), (.str (Z "Newest") 646), (R 358)⟩, ⟨PyData.keyHash P (Z "Oldest"), (.str (Z "Oldest") 673), (R 379)⟩, ⟨PyData.keyHash P (Z "Keep"), (.str (Z "Keep") 702), (R 400)⟩, ⟨PyData.keyHash P (Z "KeepOldest"), (.str (Z "KeepOldest") 729), (R 421)⟩, ⟨PyData.keyHash P (Z "KeepNone"), (.str (Z "KeepNone") 756), (R 442)⟩, ⟨PyData.keyHash P (Z "Put"), (.str (Z "Put") 787), (R 463)⟩, ⟨PyData.keyHash P (Z "Add"), (.str (Z "Add") 818), (R 484)⟩, ⟨PyData.keyHash P (Z "Stop"), (.str (Z "Stop") 845), (R 505)⟩, ⟨PyData.keyHash P (Z "If"), (.str (Z "If") 887), (R 535)⟩, ⟨PyData.keyHash P (Z "Sure"), (.str (Z "Sure") 916), (R 556)⟩, ⟨PyData.keyHash P (Z "Missed"), (.str (Z "Missed") 945), (R 577)⟩, ⟨PyData.keyHash P (Z "Untold"), (.str (Z "Untold") 974), (R 598)⟩, ⟨PyData.keyHash P (Z "Bare"), (.str (Z "Bare") 1003), (R 619)⟩, ⟨PyData.keyHash P (Z "AnySure"), (.str (Z "AnySure") 1030), (R 640)⟩, ⟨PyData.keyHash P (Z "Holds"), (.str (Z "Holds") 1061), (R 661)⟩, ⟨PyData.keyHash P (Z "Not"), (.str (Z "Not") 1090), (R 682)⟩, ⟨PyData.keyHash P (Z "lines_of"), (.str (Z "lines_of") 1099), (R 691)⟩, ⟨PyData.keyHash P (Z "inner_rows"), (.str (Z "inner_rows") 1108), (R 698)⟩, ⟨PyData.keyHash P (Z "BARE"), (.str (Z "BARE") 1112), (.str (Z "b") 1111)⟩, ⟨PyData.keyHash P (Z "UNTOLD"), (.str (Z "UNTOLD") 1114), (.str (Z "u") 1113)⟩, ⟨PyData.keyHash P (Z "SURE"), (.str (Z "SURE") 1116), (.str (Z "s") 1115)⟩, ⟨PyData.keyHash P (Z "MISSED"), (.str (Z "MISSED") 1118), (.str (Z "m") 1117)⟩, ⟨PyData.keyHash P (Z "Moment"), (.str (Z "Moment") 1154), (R 715)⟩, ⟨PyData.keyHash P (Z "Brain"), (.str (Z "Brain") 1235), (R 769)⟩, ⟨PyData.keyHash P (Z "letter_of"), (.str (Z "letter_of") 1242), (R 780)⟩, ⟨PyData.keyHash P (Z "oldest_slot"), (.str (Z "oldest_slot") 1251), (R 787)⟩, ⟨PyData.keyHash P (Z "ground_of"), (.str (Z "ground_of") 1257), (R 792)⟩, ⟨PyData.keyHash P (Z "LOST"), (.str (Z "LOST") 1261), (.str (Z "lost") 1260)⟩, ⟨PyData.keyHash P (Z "BROKEN"), (.str (Z "BROKEN") 1263), (.str (Z "broken") 1262)⟩, ⟨PyData.keyHash P (Z "SOUND"), (.str (Z "SOUND") 1265), (.str (Z "sound") 1264)⟩, ⟨PyData.keyHash P (Z "FALSE"), (.str (Z "FALSE") 1267), (.str (Z "false") 1266)⟩, ⟨PyData.keyHash P (Z "need_room"), (.str (Z "need_room") 1275), (R 799)⟩, ⟨PyData.keyHash P (Z "is_turn"), (.str (Z "is_turn") 1282), (R 806)⟩, ⟨PyData.keyHash P (Z "Made"), (.str (Z "Made") 1320), (R 830)⟩, ⟨PyData.keyHash P (Z "Passage"), (.str (Z "Passage") 1421), (R 891)⟩, ⟨PyData.keyHash P (Z "ordered"), (.str (Z "ordered") 1427), (R 900)⟩, ⟨PyData.keyHash P (Z "exchanged"), (.str (Z "exchanged") 1436), (R 907)⟩, ⟨PyData.keyHash P (Z "History"), (.str (Z "History") 1476), (R 931)⟩, ⟨PyData.keyHash P (Z "begun"), (.str (Z "begun") 1485), (R 942)⟩, ⟨PyData.keyHash P (Z "run"), (.str (Z "run") 1498), (R 950)⟩, ⟨PyData.keyHash P (Z "MODULI"), (.str (Z "MODULI") 1504), (R 951)⟩, ⟨PyData.keyHash P (Z "SLOTS"), (.str (Z "SLOTS") 1508), (R 952)⟩, ⟨PyData.keyHash P (Z "test_of"), (.str (Z "test_of") 1519), (R 959)⟩, ⟨PyData.keyHash P (Z "plain_test"), (.str (Z "plain_test") 1528), (R 966)⟩, ⟨PyData.keyHash P (Z "slot_test"), (.str (Z "slot_test") 1536), (R 973)⟩, ⟨PyData.keyHash P (Z "note_row"), (.str (Z "note_row") 1545), (R 980)⟩, ⟨PyData.keyHash P (Z "slot_row"), (.str (Z "slot_row") 1552), (R 987)⟩, ⟨PyData.keyHash P (Z "row_of"), (.str (Z "row_of") 1561), (R 994)⟩, ⟨PyData.keyHash P (Z "Block"), (.str (Z "Block") 1592), (R 1011)⟩, ⟨PyData.keyHash P (Z "Reader"), (.str (Z "Reader") 1666), (R 1067)⟩, ⟨PyData.keyHash P (Z "read_lines"), (.str (Z "read_lines") 1672), (R 1076)⟩, ⟨PyData.keyHash P (Z "LEAST_MODULUS"), (.str (Z "LEAST_MODULUS") 1676), (.int 2 1675)⟩, ⟨PyData.keyHash P (Z "MOST_MODULUS"), (.str (Z "MOST_MODULUS") 1678), (.int 4 1677)⟩, ⟨PyData.keyHash P (Z "is_note"), (.str (Z "is_note") 1685), (R 1083)⟩, ⟨PyData.keyHash P (Z "need_notes"), (.str (Z "need_notes") 1694), (R 1090)⟩, ⟨PyData.keyHash P (Z "mapped"), (.str (Z "mapped") 1706), (R 1097)⟩, ⟨PyData.keyHash P (Z "with_inner"), (.str (Z "with_inner") 1716), (R 1104)⟩, ⟨PyData.keyHash P (Z "most_slots"), (.str (Z "most_slots") 1726), (R 1111)⟩, ⟨PyData.keyHash P (Z "Chooser"), (.str (Z "Chooser") 1856), (R 1205)⟩, ⟨PyData.keyHash P (Z "MOST_SLOTS"), (.str (Z "MOST_SLOTS") 1860), (.int 3 1859)⟩, ⟨PyData.keyHash P (Z "MOST_LATENESS"), (.str (Z "MOST_LATENESS") 1862), (.int 3 1861)⟩, ⟨PyData.keyHash P (Z "MOST_LOSSES"), (.str (Z "MOST_LOSSES") 1864), (.int 4 1863)⟩, ⟨PyData.keyHash P (Z "MOST_WINDOW"), (.str (Z "MOST_WINDOW") 1866), (.int 4 1865)⟩, ⟨PyData.keyHash P (Z "House"), (.str (Z "House") 1938), (R 1255)⟩, ⟨PyData.keyHash P (Z "_law_box"), (.str (Z "_law_box") 1951), (R 1266)⟩, ⟨PyData.keyHash P (Z "_law_take"), (.str (Z "_law_take") 1962), (R 1273)⟩, ⟨PyData.keyHash P (Z "_law_pick"), (.str (Z "_law_pick") 1970), (R 1280)⟩, ⟨PyData.keyHash P (Z "_law_mixed"), (.str (Z "_law_mixed") 1981), (R 1287)⟩, ⟨PyData.keyHash P (Z "_law_names"), (.str (Z "_law_names") 1987), (R 1292)⟩, ⟨PyData.keyHash P (Z "_law_world"), (.str (Z "_law_world") 1995), (R 1299)⟩, ⟨PyData.keyHash P (Z "_law_number"), (.str (Z "_law_number") 2003), (R 1306)⟩, ⟨PyData.keyHash P (Z "_law_any_test"), (.str (Z "_law_any_test") 2014), (R 1313)⟩, ⟨PyData.keyHash P (Z "_law_any_row"), (.str (Z "_law_any_row") 2027), (R 1320)⟩, ⟨PyData.keyHash P (Z "_law_any_rows"), (.str (Z "_law_any_rows") 2039), (R 1327)⟩, ⟨PyData.keyHash P (Z "_law_wide_rows"), (.str (Z "_law_wide_rows") 2051), (R 1334)⟩, ⟨PyData.keyHash P (Z "_law_test_text"), (.str (Z "_law_test_text") 2057), (R 1339)⟩, ⟨PyData.keyHash P (Z "_law_lines"), (.str (Z "_law_lines") 2063), (R 1344)⟩, ⟨PyData.keyHash P (Z "_law_whole_lines"), (.str (Z "_law_whole_lines") 2069), (R 1349)⟩, ⟨PyData.keyHash P (Z "_law_chooser"), (.str (Z "_law_chooser") 2077), (R 1356)⟩, ⟨PyData.keyHash P (Z "_law_is_so"), (.str (Z "_law_is_so") 2087), (R 1363)⟩, ⟨PyData.keyHash P (Z "_law_ground"), (.str (Z "_law_ground") 2093), (R 1368)⟩, ⟨PyData.keyHash P (Z "_law_do_rows"), (.str (Z "_law_do_rows") 2099), (R 1373)⟩, ⟨PyData.keyHash P (Z "_law_ends"), (.str (Z "_law_ends") 2105), (R 1378)⟩, ⟨PyData.keyHash P (Z "_law_letters"), (.str (Z "_law_letters") 2115), (R 1385)⟩, ⟨PyData.keyHash P (Z "_law_made"), (.str (Z "_law_made") 2126), (R 1392)⟩, ⟨PyData.keyHash P (Z "_law_go"), (.str (Z "_law_go") 2132), (R 1397)⟩, ⟨PyData.keyHash P (Z "_law_history"), (.str (Z "_law_history") 2145), (R 1404)⟩, ⟨PyData.keyHash P (Z "_law_drawn_house"), (.str (Z "_law_drawn_house") 2153), (R 1411)⟩, ⟨PyData.keyHash P (Z "_law_can_lose"), (.str (Z "_law_can_lose") 2159), (R 1416)⟩, ⟨PyData.keyHash P (Z "_law_turns"), (.str (Z "_law_turns") 2173), (R 1423)⟩, ⟨PyData.keyHash P (Z "_law_house_of"), (.str (Z "_law_house_of") 2180), (R 1430)⟩, ⟨PyData.keyHash P (Z "_law_drawn"), (.str (Z "_law_drawn") 2186), (R 1435)⟩, ⟨PyData.keyHash P (Z "law"), (.str (Z "law") 2215), (R 1442)⟩] 131), #[]⟩
def o12z (P : Params) : Obj := ⟨.none, .none, (.fields #[(.int 1 0), (.int 0 0), (R 20), (.int 5 0), (.int 0 0), (R 27), (.int 7 0), (.int 0 0), (R 40), (.int 12 0), (.int 0 0), (R 59), (.int 17 0), (.int 0 0), (R 78), (.int 22 0), (.int 0 0), (R 97), (.int 27 0), (.int 0 0), (R 116), (.int 32 0), (.int 0 0), (R 135), (.int 37 0), (.int 0 0), (R 154), (.int 47 0), (.int 0 0), (R 174), (.int 49 0), (.int 0 0), (R 181), (.int 51 0), (.int 0 0), (R 186), (.int 55 0), (.int 0 0), (R 191), (.int 61 0), (.int 0 0), (R 198), (.int 64 0), (.int 0 0), (R 205), (.int 67 0), (.int 0 0), (R 212), (.int 70 0), (.int 0 0), (R 219), (.int 73 0), (.int 0 0), (R 226), (.int 80 0), (.int 0 0), (R 233), (.int 93 0), (.int 0 0), (R 271), (.int 97 0), (.int 0 0), (R 290), (.int 99 0), (.int 0 0), (R 303), (.int 104 0), (.int 0 0), (R 324), (.int 114 0), (.int 0 0), (R 346), (.int 119 0), (.int 0 0), (R 367), (.int 124 0), (.int 0 0), (R 388), (.int 131 0), (.int 0 0), (R 409), (.int 136 0), (.int 0 0), (R 430), (.int 141 0), (.int 0 0), (R 451), (.int 150 0), (.int 0 0), (R 472), (.int 159 0), (.int 0 0), (R 493), (.int 164 0), (.int 0 0), (R 514), (.int 178 0), (.int 0 0), (R 544), (.int 185 0), (.int 0 0), (R 565), (.int 192 0), (.int 0 0), (R 586), (.int 199 0), (.int 0 0), (R 607), (.int 206 0), (.int 0 0), (R 628), (.int 211 0), (.int 0 0), (R 649), (.int 220 0), (.int 0 0), (R 670), (.int 227 0), (.int 0 0), (R 690), (.int 232 0), (.int 0 0), (R 697), (.int 242 0), (.int 0 0), (R 704), (.int 251 0), (.int 0 0), (R 725), (.int 299 0), (.int 0 0), (R 779), (.int 305 0), (.int 0 0), (R 786), (.int 310 0), (.int 0 0), (R 791), (.int 325 0), (.int 0 0), (R 798), (.int 328 0), (.int 0 0), (R 805), (.int 332 0), (.int 0 0), (R 812), (.int 340 0), (.int 0 0), (R 840), (.int 398 0), (.int 0 0), (R 899), (.int 401 0), (.int 0 0), (R 906), (.int 403 0), (.int 0 0), (R 913), (.int 414 0), (.int 0 0), (R 941), (.int 417 0), (.int 0 0), (R 949), (.int 429 0), (.int 0 0), (R 958), (.int 438 0), (.int 0 0), (R 965), (.int 447 0), (.int 0 0), (R 972), (.int 455 0), (.int 0 0), (R 979), (.int 462 0), (.int 0 0), (R 986), (.int 470 0), (.int 0 0), (R 993), (.int 485 0), (.int 0 0), (R 1000), (.int 491 0), (.int 0 0), (R 1021), (.int 542 0), (.int 0 0), (R 1075), (.int 554 0), (.int 0 0), (R 1082), (.int 558 0), (.int 0 0), (R 1089), (.int 567 0), (.int 0 0), (R 1096), (.int 573 0), (.int 0 0), (R 1103), (.int 578 0), (.int 0 0), (R 1110), (.int 584 0), (.int 0 0), (R 1117), (.int 648 0), (.int 0 0), (R 1215), (.int 681 0), (.int 0 0), (R 1265), (.int 689 0), (.int 0 0), (R 1272), (.int 701 0), (.int 0 0), (R 1279), (.int 703 0), (.int 0 0), (R 1286), (.int 708 0), (.int 0 0), (R 1291), (.int 719 0), (.int 0 0), (R 1298), (.int 723 0), (.int 0 0), (R 1305), (.int 728 0), (.int 0 0), (R 1312), (.int 738 0), (.int 0 0), (R 1319), (.int 750 0), (.int 0 0), (R 1326), (.int 757 0), (.int 0 0), (R 1333), (.int 762 0), (.int 0 0), (R 1338), (.int 768 0), (.int 0 0), (R 1343), (.int 782 0), (.int 0 0), (R 1348), (.int 784 0), (.int 0 0), (R 1355), (.int 786 0), (.int 0 0), (R 1362), (.int 794 0), (.int 0 0), (R 1367), (.int 802 0), (.int 0 0), (R 1372), (.int 821 0), (.int 0 0), (R 1377), (.int 824 0), (.int 0 0), (R 1384), (.int 834 0), (.int 0 0), (R 1391), (.int 843 0), (.int 0 0), (R 1396), (.int 858 0), (.int 0 0), (R 1403), (.int 863 0), (.int 0 0), (R 1410), (.int 867 0), (.int 0 0), (R 1415), (.int 872 0), (.int 0 0), (R 1422), (.int 879 0), (.int 0 0), (R 1429), (.int 881 0), (.int 0 0), (R 1434), (.int 890 0), (.int 0 0), (R 1441)]), #[]⟩
def o835z (P : Params) : Obj := ⟨(.type "tuple"), .none, (.seq #[] 0), #[]⟩
def o836z (P : Params) : Obj := ⟨(.type "builtin_function_or_method"), .none, (.fields #[(.builtin "type.__prepare__"), (.type "type")]), #[]⟩
def o837z (P : Params) : Obj := ⟨(.type "dict"), .none, (.dict #[⟨PyData.keyHash P (Z "__module__"), (.str (Z "__module__") 1328), (.str (Z "heldground.runs") 1258)⟩, ⟨PyData.keyHash P (Z "__qualname__"), (.str (Z "__qualname__") 1330), (.str (Z "Passage") 1329)⟩, ⟨PyData.keyHash P (Z "__firstlineno__"), (.str (Z "__firstlineno__") 1332), (.int 340 1331)⟩, ⟨PyData.keyHash P (Z "__init__"), (.str (Z "__init__") 1342), (R 848)⟩, ⟨PyData.keyHash P (Z "can_go"), (.str (Z "can_go") 1352), (R 855)⟩, ⟨PyData.keyHash P (Z "told_of"), (.str (Z "told_of") 1358), (R 860)⟩, ⟨PyData.keyHash P (Z "letter"), (.str (Z "letter") 1367), (R 867)⟩, ⟨PyData.keyHash P (Z "is_same"), (.str (Z "is_same") 1376), (R 874)⟩, ⟨PyData.keyHash P (Z "made_of"), (.str (Z "made_of") 1386), (R 881)⟩, ⟨PyData.keyHash P (Z "behind"), (.str (Z "behind") 1402), (R 888)⟩, ⟨PyData.keyHash P (Z "__static_attributes__"), (.str (Z "__static_attributes__") 1414), (R 889)⟩] 11), #[]⟩
def o838z (P : Params) : Obj := ⟨(.type "tuple"), .none, (.seq #[] 0), #[]⟩
def o839z (P : Params) : Obj := ⟨.none, .none, (.fields #[(.int 342 0), (.int 4 0), (R 847), (.int 355 0), (.int 4 0), (R 854), (.int 363 0), (.int 4 0), (R 859), (.int 366 0), (.int 4 0), (R 866), (.int 373 0), (.int 4 0), (R 873), (.int 376 0), (.int 4 0), (R 880), (.int 384 0), (.int 4 0), (R 887)]), #[]⟩
def o840z (P : Params) : Obj := ⟨(.type "code"), .none, (.fields #[(.str (Z "Passage") 1323), (.str (Z "Passage") 1324), (.str (Z "/claim/cut.py") 1325), (.int 340 0), (.int 0 0), (.int 0 0), (.int 0 0), (.int 0 0), (R 838), (.bool false), (.int 181 0), (R 839), .none, .none, .none, .none, (.int 1326 0), (.int 340 0), (.str (Z "/claim/cut.py") 1327)]), #[]⟩
def o841z (P : Params) : Obj := ⟨(.type "frame"), .none, .plain, #[(.some (R 840)), (.some (R 3)), (.some (R 837)), .none, (.some (.str (Z "heldground.runs") 1258)), .none, (.some (R 0))]⟩
def o842z (P : Params) : Obj := ⟨(.type "tuple"), .none, (.seq #[] 0), #[]⟩
def o843z (P : Params) : Obj := ⟨.none, .none, (.fields #[]), #[]⟩
def o844z (P : Params) : Obj := ⟨(.type "tuple"), .none, (.seq #[(.str (Z "self") 1336), (.str (Z "brain") 1337), (.str (Z "house") 1338), (.str (Z "modulus") 1339)] 0), #[]⟩
def o845z (P : Params) : Obj := ⟨(.type "tuple"), .none, (.seq #[] 0), #[]⟩
def o846z (P : Params) : Obj := ⟨.none, .none, (.func ⟨(Z "__init__"), (Z "Passage.__init__"), dA (ic (tp 68) 0), .stmts (dB (ic (tp 68) 0)), dS (ic (tp 68) 0), 0, [], .none, .none, .none, .none, .none, .none, .none, 0⟩), #[]⟩
def o847z (P : Params) : Obj := ⟨(.type "code"), .none, (.fields #[(.str (Z "__init__") 1333), (.str (Z "Passage.__init__") 1334), (.str (Z "/claim/cut.py") 1335), (.int 342 0), (.int 4 0), (.int 0 0), (.int 0 0), (.int 3 0), (R 842), (.bool true), (.int 181 0), (R 843), .none, (R 844), (R 845), (R 846), (.int 1340 0), (.int 342 0), (.str (Z "/claim/cut.py") 1341)]), #[]⟩
def o848z (P : Params) : Obj := ⟨(.type "function"), .none, (.func ⟨(Z "__init__"), (Z "Passage.__init__"), dA (ic (tp 68) 0), .stmts (dB (ic (tp 68) 0)), dS (ic (tp 68) 0), 3, [], .none, .none, .none, (.str (Z "heldground.runs") 1258), .none, (R 847), .none, 0⟩), #[]⟩
def o849z (P : Params) : Obj := ⟨(.type "tuple"), .none, (.seq #[] 0), #[]⟩
def o850z (P : Params) : Obj := ⟨.none, .none, (.fields #[]), #[]⟩
def o851z (P : Params) : Obj := ⟨(.type "tuple"), .none, (.seq #[(.str (Z "self") 1346), (.str (Z "value") 1347), (.str (Z "comes") 1348), (.str (Z "unheard") 1349)] 0), #[]⟩
def o852z (P : Params) : Obj := ⟨(.type "tuple"), .none, (.seq #[] 0), #[]⟩
def o853z (P : Params) : Obj := ⟨.none, .none, (.func ⟨(Z "can_go"), (Z "Passage.can_go"), dA (ic (tp 68) 1), .stmts (dB (ic (tp 68) 1)), dS (ic (tp 68) 1), 0, [], .none, .none, .none, .none, .none, .none, .none, 0⟩), #[]⟩
def o854z (P : Params) : Obj := ⟨(.type "code"), .none, (.fields #[(.str (Z "can_go") 1343), (.str (Z "Passage.can_go") 1344), (.str (Z "/claim/cut.py") 1345), (.int 355 0), (.int 2 0), (.int 0 0), (.int 0 0), (.int 3 0), (R 849), (.bool true), (.int 181 0), (R 850), .none, (R 851), (R 852), (R 853), (.int 1350 0), (.int 355 0), (.str (Z "/claim/cut.py") 1351)]), #[]⟩
def o855z (P : Params) : Obj := ⟨(.type "function"), .none, (.func ⟨(Z "can_go"), (Z "Passage.can_go"), dA (ic (tp 68) 1), .stmts (dB (ic (tp 68) 1)), dS (ic (tp 68) 1), 3, [], .none, .none, .none, (.str (Z "heldground.runs") 1258), .none, (R 854), .none, 0⟩), #[]⟩
def o856z (P : Params) : Obj := ⟨(.type "tuple"), .none, (.seq #[] 0), #[]⟩
def o857z (P : Params) : Obj := ⟨.none, .none, (.fields #[]), #[]⟩
def o858z (P : Params) : Obj := ⟨.none, .none, (.func ⟨(Z "told_of"), (Z "Passage.told_of"), dA (ic (tp 68) 2), .stmts (dB (ic (tp 68) 2)), dS (ic (tp 68) 2), 0, [], .none, .none, .none, .none, .none, .none, .none, 0⟩), #[]⟩
def o859z (P : Params) : Obj := ⟨(.type "code"), .none, (.fields #[(.str (Z "told_of") 1353), (.str (Z "Passage.told_of") 1354), (.str (Z "/claim/cut.py") 1355), (.int 363 0), (.int 2 0), (.int 0 0), (.int 0 0), (.int 3 0), (R 856), (.bool true), (.int 181 0), (R 857), .none, .none, .none, (R 858), (.int 1356 0), (.int 363 0), (.str (Z "/claim/cut.py") 1357)]), #[]⟩
def o860z (P : Params) : Obj := ⟨(.type "function"), .none, (.func ⟨(Z "told_of"), (Z "Passage.told_of"), dA (ic (tp 68) 2), .stmts (dB (ic (tp 68) 2)), dS (ic (tp 68) 2), 3, [], .none, .none, .none, (.str (Z "heldground.runs") 1258), .none, (R 859), .none, 0⟩), #[]⟩
def o861z (P : Params) : Obj := ⟨(.type "tuple"), .none, (.seq #[] 0), #[]⟩
def o862z (P : Params) : Obj := ⟨.none, .none, (.fields #[]), #[]⟩
def o863z (P : Params) : Obj := ⟨(.type "tuple"), .none, (.seq #[(.str (Z "self") 1362), (.str (Z "number") 1363), (.str (Z "unheard") 1364)] 0), #[]⟩
def o864z (P : Params) : Obj := ⟨(.type "tuple"), .none, (.seq #[] 0), #[]⟩
def o865z (P : Params) : Obj := ⟨.none, .none, (.func ⟨(Z "letter"), (Z "Passage.letter"), dA (ic (tp 68) 3), .stmts (dB (ic (tp 68) 3)), dS (ic (tp 68) 3), 0, [], .none, .none, .none, .none, .none, .none, .none, 0⟩), #[]⟩
def o866z (P : Params) : Obj := ⟨(.type "code"), .none, (.fields #[(.str (Z "letter") 1359), (.str (Z "Passage.letter") 1360), (.str (Z "/claim/cut.py") 1361), (.int 366 0), (.int 3 0), (.int 0 0), (.int 0 0), (.int 3 0), (R 861), (.bool true), (.int 181 0), (R 862), .none, (R 863), (R 864), (R 865), (.int 1365 0), (.int 366 0), (.str (Z "/claim/cut.py") 1366)]), #[]⟩
def o867z (P : Params) : Obj := ⟨(.type "function"), .none, (.func ⟨(Z "letter"), (Z "Passage.letter"), dA (ic (tp 68) 3), .stmts (dB (ic (tp 68) 3)), dS (ic (tp 68) 3), 3, [], .none, .none, .none, (.str (Z "heldground.runs") 1258), .none, (R 866), .none, 0⟩), #[]⟩
def o868z (P : Params) : Obj := ⟨(.type "tuple"), .none, (.seq #[] 0), #[]⟩
def o869z (P : Params) : Obj := ⟨.none, .none, (.fields #[]), #[]⟩
def o870z (P : Params) : Obj := ⟨(.type "tuple"), .none, (.seq #[(.str (Z "self") 1371), (.str (Z "one") 1372), (.str (Z "other") 1373)] 0), #[]⟩
def o871z (P : Params) : Obj := ⟨(.type "tuple"), .none, (.seq #[] 0), #[]⟩
def o872z (P : Params) : Obj := ⟨.none, .none, (.func ⟨(Z "is_same"), (Z "Passage.is_same"), dA (ic (tp 68) 4), .stmts (dB (ic (tp 68) 4)), dS (ic (tp 68) 4), 0, [], .none, .none, .none, .none, .none, .none, .none, 0⟩), #[]⟩
def o873z (P : Params) : Obj := ⟨(.type "code"), .none, (.fields #[(.str (Z "is_same") 1368), (.str (Z "Passage.is_same") 1369), (.str (Z "/claim/cut.py") 1370), (.int 373 0), (.int 3 0), (.int 0 0), (.int 0 0), (.int 3 0), (R 868), (.bool true), (.int 181 0), (R 869), .none, (R 870), (R 871), (R 872), (.int 1374 0), (.int 373 0), (.str (Z "/claim/cut.py") 1375)]), #[]⟩
def o874z (P : Params) : Obj := ⟨(.type "function"), .none, (.func ⟨(Z "is_same"), (Z "Passage.is_same"), dA (ic (tp 68) 4), .stmts (dB (ic (tp 68) 4)), dS (ic (tp 68) 4), 3, [], .none, .none, .none, (.str (Z "heldground.runs") 1258), .none, (R 873), .none, 0⟩), #[]⟩
def o875z (P : Params) : Obj := ⟨(.type "tuple"), .none, (.seq #[] 0), #[]⟩
def o876z (P : Params) : Obj := ⟨.none, .none, (.fields #[]), #[]⟩
def o877z (P : Params) : Obj := ⟨(.type "tuple"), .none, (.seq #[(.str (Z "self") 1380), (.str (Z "ground") 1381), (.str (Z "far") 1382), (.str (Z "number") 1383)] 0), #[]⟩
def o878z (P : Params) : Obj := ⟨(.type "tuple"), .none, (.seq #[] 0), #[]⟩
def o879z (P : Params) : Obj := ⟨.none, .none, (.func ⟨(Z "made_of"), (Z "Passage.made_of"), dA (ic (tp 68) 5), .stmts (dB (ic (tp 68) 5)), dS (ic (tp 68) 5), 0, [], .none, .none, .none, .none, .none, .none, .none, 0⟩), #[]⟩
def o880z (P : Params) : Obj := ⟨(.type "code"), .none, (.fields #[(.str (Z "made_of") 1377), (.str (Z "Passage.made_of") 1378), (.str (Z "/claim/cut.py") 1379), (.int 376 0), (.int 2 0), (.int 0 0), (.int 0 0), (.int 3 0), (R 875), (.bool true), (.int 181 0), (R 876), .none, (R 877), (R 878), (R 879), (.int 1384 0), (.int 376 0), (.str (Z "/claim/cut.py") 1385)]), #[]⟩
def o881z (P : Params) : Obj := ⟨(.type "function"), .none, (.func ⟨(Z "made_of"), (Z "Passage.made_of"), dA (ic (tp 68) 5), .stmts (dB (ic (tp 68) 5)), dS (ic (tp 68) 5), 3, [], .none, .none, .none, (.str (Z "heldground.runs") 1258), .none, (R 880), .none, 0⟩), #[]⟩
def o882z (P : Params) : Obj := ⟨(.type "tuple"), .none, (.seq #[] 0), #[]⟩
def o883z (P : Params) : Obj := ⟨.none, .none, (.fields #[]), #[]⟩
def o884z (P : Params) : Obj := ⟨(.type "tuple"), .none, (.seq #[(.str (Z "self") 1390), (.str (Z "comes") 1391), (.str (Z "unheard") 1392), (.str (Z "told") 1393), (.str (Z "rests") 1394), (.str (Z "ground") 1395), (.str (Z "keep") 1396), (.str (Z "shown") 1397), (.str (Z "number") 1398), (.str (Z "found") 1399)] 0), #[]⟩
def o885z (P : Params) : Obj := ⟨(.type "tuple"), .none, (.seq #[] 0), #[]⟩
def o886z (P : Params) : Obj := ⟨.none, .none, (.func ⟨(Z "behind"), (Z "Passage.behind"), dA (ic (tp 68) 6), .stmts (dB (ic (tp 68) 6)), dS (ic (tp 68) 6), 0, [], .none, .none, .none, .none, .none, .none, .none, 0⟩), #[]⟩
def o887z (P : Params) : Obj := ⟨(.type "code"), .none, (.fields #[(.str (Z "behind") 1387), (.str (Z "Passage.behind") 1388), (.str (Z "/claim/cut.py") 1389), (.int 384 0), (.int 3 0), (.int 0 0), (.int 0 0), (.int 3 0), (R 882), (.bool true), (.int 181 0), (R 883), .none, (R 884), (R 885), (R 886), (.int 1400 0), (.int 384 0), (.str (Z "/claim/cut.py") 1401)]), #[]⟩
def o888z (P : Params) : Obj := ⟨(.type "function"), .none, (.func ⟨(Z "behind"), (Z "Passage.behind"), dA (ic (tp 68) 6), .stmts (dB (ic (tp 68) 6)), dS (ic (tp 68) 6), 3, [], .none, .none, .none, (.str (Z "heldground.runs") 1258), .none, (R 887), .none, 0⟩), #[]⟩
def o889z (P : Params) : Obj := ⟨(.type "tuple"), .none, (.seq #[(.str (Z "brain") 1403), (.str (Z "choices") 1404), (.str (Z "fates") 1405), (.str (Z "had") 1406), (.str (Z "house") 1407), (.str (Z "last_unheard") 1408), (.str (Z "modulus") 1409), (.str (Z "rests") 1410), (.str (Z "sent") 1411), (.str (Z "showed") 1412), (.str (Z "tellings") 1413)] 0), #[]⟩
def o890z (P : Params) : Obj := ⟨(.type "dict"), .none, (.dict #[⟨PyData.keyHash P (Z "__module__"), (.str (Z "__module__") 1328), (.str (Z "heldground.runs") 1258)⟩, ⟨PyData.keyHash P (Z "__firstlineno__"), (.str (Z "__firstlineno__") 1332), (.int 340 1331)⟩, ⟨PyData.keyHash P (Z "__init__"), (.str (Z "__init__") 1342), (R 848)⟩, ⟨PyData.keyHash P (Z "can_go"), (.str (Z "can_go") 1352), (R 855)⟩, ⟨PyData.keyHash P (Z "told_of"), (.str (Z "told_of") 1358), (R 860)⟩, ⟨PyData.keyHash P (Z "letter"), (.str (Z "letter") 1367), (R 867)⟩, ⟨PyData.keyHash P (Z "is_same"), (.str (Z "is_same") 1376), (R 874)⟩, ⟨PyData.keyHash P (Z "made_of"), (.str (Z "made_of") 1386), (R 881)⟩, ⟨PyData.keyHash P (Z "behind"), (.str (Z "behind") 1402), (R 888)⟩, ⟨PyData.keyHash P (Z "__static_attributes__"), (.str (Z "__static_attributes__") 1414), (R 889)⟩, ⟨PyData.keyHash P (Z "__dict__"), (.str (Z "__dict__") 1416), (R 892)⟩, ⟨PyData.keyHash P (Z "__weakref__"), (.str (Z "__weakref__") 1418), (R 893)⟩, ⟨PyData.keyHash P (Z "__doc__"), (.str (Z "__doc__") 1419), .none⟩] 4), #[]⟩
def o891z (P : Params) : Obj := ⟨(.type "type"), .none, (.cls ⟨(Z "Passage"), [(.type "object")], [(R 891), (.type "object")], 890, (Z "Passage"), true, [], [], false, .none, false⟩), #[.none, .none, (.some (.str (Z "Passage") 1321)), (.some (.str (Z "Passage") 1329)), (.some (.builtin "object.__new__")), (.some (.bool true))]⟩
def o892z (P : Params) : Obj := ⟨(.type "getset_descriptor"), .none, (.fields #[(.str (Z "__dict__") 1415), (R 891), (.builtin "function.__dict__"), (.builtin "function.__dict__#set")]), #[]⟩
def o893z (P : Params) : Obj := ⟨(.type "getset_descriptor"), .none, (.fields #[(.str (Z "__weakref__") 1417), (R 891), (.builtin "ExceptionGroup.__weakref__"), .none]), #[]⟩
def o894z (P : Params) : Obj := ⟨(.type "super"), .none, (.fields #[(R 891), (R 891), (R 891)]), #[]⟩
def o895z (P : Params) : Obj := ⟨(.type "builtin_function_or_method"), .none, (.fields #[(.builtin "object.__init_subclass__"), (R 891)]), #[]⟩
def o896z (P : Params) : Obj := ⟨(.type "tuple"), .none, (.seq #[] 0), #[]⟩
def o897z (P : Params) : Obj := ⟨.none, .none, (.fields #[]), #[]⟩
def o898z (P : Params) : Obj := ⟨.none, .none, (.func ⟨(Z "ordered"), (Z "ordered"), dA (tp 69), .stmts (dB (tp 69)), dS (tp 69), 0, [], .none, .none, .none, .none, .none, .none, .none, 0⟩), #[]⟩
def o899z (P : Params) : Obj := ⟨(.type "code"), .none, (.fields #[(.str (Z "ordered") 1422), (.str (Z "ordered") 1423), (.str (Z "/claim/cut.py") 1424), (.int 398 0), (.int 1 0), (.int 0 0), (.int 0 0), (.int 3 0), (R 896), (.bool true), (.int 181 0), (R 897), .none, .none, .none, (R 898), (.int 1425 0), (.int 398 0), (.str (Z "/claim/cut.py") 1426)]), #[]⟩
def o900z (P : Params) : Obj := ⟨(.type "function"), .none, (.func ⟨(Z "ordered"), (Z "ordered"), dA (tp 69), .stmts (dB (tp 69)), dS (tp 69), 3, [], .none, .none, .none, (.str (Z "heldground.runs") 1258), .none, (R 899), .none, 0⟩), #[]⟩
def o901z (P : Params) : Obj := ⟨(.type "tuple"), .none, (.seq #[] 0), #[]⟩
def o902z (P : Params) : Obj := ⟨.none, .none, (.fields #[]), #[]⟩
def o903z (P : Params) : Obj := ⟨(.type "tuple"), .none, (.seq #[(.str (Z "things") 1431), (.str (Z "at") 1432), (.str (Z "thing") 1433)] 0), #[]⟩
def o904z (P : Params) : Obj := ⟨(.type "tuple"), .none, (.seq #[] 0), #[]⟩
def o905z (P : Params) : Obj := ⟨.none, .none, (.func ⟨(Z "exchanged"), (Z "exchanged"), dA (tp 70), .stmts (dB (tp 70)), dS (tp 70), 0, [], .none, .none, .none, .none, .none, .none, .none, 0⟩), #[]⟩
def o906z (P : Params) : Obj := ⟨(.type "code"), .none, (.fields #[(.str (Z "exchanged") 1428), (.str (Z "exchanged") 1429), (.str (Z "/claim/cut.py") 1430), (.int 401 0), (.int 3 0), (.int 0 0), (.int 0 0), (.int 3 0), (R 901), (.bool true), (.int 181 0), (R 902), .none, (R 903), (R 904), (R 905), (.int 1434 0), (.int 401 0), (.str (Z "/claim/cut.py") 1435)]), #[]⟩
def o907z (P : Params) : Obj := ⟨(.type "function"), .none, (.func ⟨(Z "exchanged"), (Z "exchanged"), dA (tp 70), .stmts (dB (tp 70)), dS (tp 70), 3, [], .none, .none, .none, (.str (Z "heldground.runs") 1258), .none, (R 906), .none, 0⟩), #[]⟩
def o908z (P : Params) : Obj := ⟨(.type "tuple"), .none, (.seq #[] 0), #[]⟩
def o909z (P : Params) : Obj := ⟨(.type "builtin_function_or_method"), .none, (.fields #[(.builtin "type.__prepare__"), (.type "type")]), #[]⟩
def o910z (P : Params) : Obj := ⟨(.type "dict"), .none, (.dict #[⟨PyData.keyHash P (Z "__module__"), (.str (Z "__module__") 1444), (.str (Z "heldground.runs") 1258)⟩, ⟨PyData.keyHash P (Z "__qualname__"), (.str (Z "__qualname__") 1446), (.str (Z "History") 1445)⟩, ⟨PyData.keyHash P (Z "__firstlineno__"), (.str (Z "__firstlineno__") 1448), (.int 403 1447)⟩, ⟨PyData.keyHash P (Z "__init__"), (.str (Z "__init__") 1456), (R 921)⟩, ⟨PyData.keyHash P (Z "__eq__"), (.str (Z "__eq__") 1464), (R 928)⟩, ⟨PyData.keyHash P (Z "__static_attributes__"), (.str (Z "__static_attributes__") 1468), (R 929)⟩] 6), #[]⟩
def o911z (P : Params) : Obj := ⟨(.type "tuple"), .none, (.seq #[] 0), #[]⟩
def o912z (P : Params) : Obj := ⟨.none, .none, (.fields #[(.int 405 0), (.int 4 0), (R 920), (.int 410 0), (.int 4 0), (R 927)]), #[]⟩
def o913z (P : Params) : Obj := ⟨(.type "code"), .none, (.fields #[(.str (Z "History") 1439), (.str (Z "History") 1440), (.str (Z "/claim/cut.py") 1441), (.int 403 0), (.int 0 0), (.int 0 0), (.int 0 0), (.int 0 0), (R 911), (.bool false), (.int 181 0), (R 912), .none, .none, .none, .none, (.int 1442 0), (.int 403 0), (.str (Z "/claim/cut.py") 1443)]), #[]⟩
def o914z (P : Params) : Obj := ⟨(.type "frame"), .none, .plain, #[(.some (R 913)), (.some (R 3)), (.some (R 910)), .none, (.some (.str (Z "heldground.runs") 1258)), .none, (.some (R 0))]⟩
def o915z (P : Params) : Obj := ⟨(.type "tuple"), .none, (.seq #[] 0), #[]⟩
def o916z (P : Params) : Obj := ⟨.none, .none, (.fields #[]), #[]⟩
def o917z (P : Params) : Obj := ⟨(.type "tuple"), .none, (.seq #[(.str (Z "self") 1452), (.str (Z "passage") 1453)] 0), #[]⟩
def o918z (P : Params) : Obj := ⟨(.type "tuple"), .none, (.seq #[] 0), #[]⟩
def o919z (P : Params) : Obj := ⟨.none, .none, (.func ⟨(Z "__init__"), (Z "History.__init__"), dA (ic (tp 71) 0), .stmts (dB (ic (tp 71) 0)), dS (ic (tp 71) 0), 0, [], .none, .none, .none, .none, .none, .none, .none, 0⟩), #[]⟩
def o920z (P : Params) : Obj := ⟨(.type "code"), .none, (.fields #[(.str (Z "__init__") 1449), (.str (Z "History.__init__") 1450), (.str (Z "/claim/cut.py") 1451), (.int 405 0), (.int 2 0), (.int 0 0), (.int 0 0), (.int 3 0), (R 915), (.bool true), (.int 181 0), (R 916), .none, (R 917), (R 918), (R 919), (.int 1454 0), (.int 405 0), (.str (Z "/claim/cut.py") 1455)]), #[]⟩
def o921z (P : Params) : Obj := ⟨(.type "function"), .none, (.func ⟨(Z "__init__"), (Z "History.__init__"), dA (ic (tp 71) 0), .stmts (dB (ic (tp 71) 0)), dS (ic (tp 71) 0), 3, [], .none, .none, .none, (.str (Z "heldground.runs") 1258), .none, (R 920), .none, 0⟩), #[]⟩
def o922z (P : Params) : Obj := ⟨(.type "tuple"), .none, (.seq #[] 0), #[]⟩
def o923z (P : Params) : Obj := ⟨.none, .none, (.fields #[]), #[]⟩
def o924z (P : Params) : Obj := ⟨(.type "tuple"), .none, (.seq #[(.str (Z "self") 1460), (.str (Z "other") 1461)] 0), #[]⟩
def o925z (P : Params) : Obj := ⟨(.type "tuple"), .none, (.seq #[] 0), #[]⟩
def o926z (P : Params) : Obj := ⟨.none, .none, (.func ⟨(Z "__eq__"), (Z "History.__eq__"), dA (ic (tp 71) 1), .stmts (dB (ic (tp 71) 1)), dS (ic (tp 71) 1), 0, [], .none, .none, .none, .none, .none, .none, .none, 0⟩), #[]⟩
def o927z (P : Params) : Obj := ⟨(.type "code"), .none, (.fields #[(.str (Z "__eq__") 1457), (.str (Z "History.__eq__") 1458), (.str (Z "/claim/cut.py") 1459), (.int 410 0), (.int 2 0), (.int 0 0), (.int 0 0), (.int 3 0), (R 922), (.bool true), (.int 181 0), (R 923), .none, (R 924), (R 925), (R 926), (.int 1462 0), (.int 410 0), (.str (Z "/claim/cut.py") 1463)]), #[]⟩
def o928z (P : Params) : Obj := ⟨(.type "function"), .none, (.func ⟨(Z "__eq__"), (Z "History.__eq__"), dA (ic (tp 71) 1), .stmts (dB (ic (tp 71) 1)), dS (ic (tp 71) 1), 3, [], .none, .none, .none, (.str (Z "heldground.runs") 1258), .none, (R 927), .none, 0⟩), #[]⟩
def o929z (P : Params) : Obj := ⟨(.type "tuple"), .none, (.seq #[(.str (Z "choices") 1465), (.str (Z "shown") 1466), (.str (Z "told") 1467)] 0), #[]⟩
def o930z (P : Params) : Obj := ⟨(.type "dict"), .none, (.dict #[⟨PyData.keyHash P (Z "__module__"), (.str (Z "__module__") 1444), (.str (Z "heldground.runs") 1258)⟩, ⟨PyData.keyHash P (Z "__firstlineno__"), (.str (Z "__firstlineno__") 1448), (.int 403 1447)⟩, ⟨PyData.keyHash P (Z "__init__"), (.str (Z "__init__") 1456), (R 921)⟩, ⟨PyData.keyHash P (Z "__eq__"), (.str (Z "__eq__") 1464), (R 928)⟩, ⟨PyData.keyHash P (Z "__static_attributes__"), (.str (Z "__static_attributes__") 1468), (R 929)⟩, ⟨PyData.keyHash P (Z "__dict__"), (.str (Z "__dict__") 1470), (R 932)⟩, ⟨PyData.keyHash P (Z "__weakref__"), (.str (Z "__weakref__") 1472), (R 933)⟩, ⟨PyData.keyHash P (Z "__doc__"), (.str (Z "__doc__") 1473), .none⟩, ⟨PyData.keyHash P (Z "__hash__"), (.str (Z "__hash__") 1474), .none⟩] 5), #[]⟩
def o931z (P : Params) : Obj := ⟨(.type "type"), .none, (.cls ⟨(Z "History"), [(.type "object")], [(R 931), (.type "object")], 930, (Z "History"), true, [], [], false, .none, false⟩), #[.none, .none, (.some (.str (Z "History") 1437)), (.some (.str (Z "History") 1445)), (.some (.builtin "object.__new__")), (.some (.bool true))]⟩
def o932z (P : Params) : Obj := ⟨(.type "getset_descriptor"), .none, (.fields #[(.str (Z "__dict__") 1469), (R 931), (.builtin "function.__dict__"), (.builtin "function.__dict__#set")]), #[]⟩
def o933z (P : Params) : Obj := ⟨(.type "getset_descriptor"), .none, (.fields #[(.str (Z "__weakref__") 1471), (R 931), (.builtin "ExceptionGroup.__weakref__"), .none]), #[]⟩
def o934z (P : Params) : Obj := ⟨(.type "super"), .none, (.fields #[(R 931), (R 931), (R 931)]), #[]⟩
def o935z (P : Params) : Obj := ⟨(.type "builtin_function_or_method"), .none, (.fields #[(.builtin "object.__init_subclass__"), (R 931)]), #[]⟩
def o936z (P : Params) : Obj := ⟨(.type "tuple"), .none, (.seq #[] 0), #[]⟩
def o937z (P : Params) : Obj := ⟨.none, .none, (.fields #[]), #[]⟩
def o938z (P : Params) : Obj := ⟨(.type "tuple"), .none, (.seq #[(.str (Z "chooser") 1480), (.str (Z "house") 1481), (.str (Z "modulus") 1482)] 0), #[]⟩
def o939z (P : Params) : Obj := ⟨(.type "tuple"), .none, (.seq #[] 0), #[]⟩
def o940z (P : Params) : Obj := ⟨.none, .none, (.func ⟨(Z "begun"), (Z "begun"), dA (tp 72), .stmts (dB (tp 72)), dS (tp 72), 0, [], .none, .none, .none, .none, .none, .none, .none, 0⟩), #[]⟩
def o941z (P : Params) : Obj := ⟨(.type "code"), .none, (.fields #[(.str (Z "begun") 1477), (.str (Z "begun") 1478), (.str (Z "/claim/cut.py") 1479), (.int 414 0), (.int 3 0), (.int 0 0), (.int 0 0), (.int 3 0), (R 936), (.bool true), (.int 181 0), (R 937), .none, (R 938), (R 939), (R 940), (.int 1483 0), (.int 414 0), (.str (Z "/claim/cut.py") 1484)]), #[]⟩
def o942z (P : Params) : Obj := ⟨(.type "function"), .none, (.func ⟨(Z "begun"), (Z "begun"), dA (tp 72), .stmts (dB (tp 72)), dS (tp 72), 3, [], .none, .none, .none, (.str (Z "heldground.runs") 1258), .none, (R 941), .none, 0⟩), #[]⟩
def o943z (P : Params) : Obj := ⟨(.type "tuple"), .none, (.seq #[.none] 0), #[]⟩
def o944z (P : Params) : Obj := ⟨(.type "tuple"), .none, (.seq #[] 0), #[]⟩
def o945z (P : Params) : Obj := ⟨.none, .none, (.fields #[]), #[]⟩
def o946z (P : Params) : Obj := ⟨(.type "tuple"), .none, (.seq #[(.str (Z "chooser") 1489), (.str (Z "house") 1490), (.str (Z "turns") 1491), (.str (Z "modulus") 1492), (.str (Z "passage") 1493), (.str (Z "at") 1494), (.str (Z "turn") 1495)] 0), #[]⟩
def o947z (P : Params) : Obj := ⟨(.type "tuple"), .none, (.seq #[] 0), #[]⟩
def o948z (P : Params) : Obj := ⟨.none, .none, (.func ⟨(Z "run"), (Z "run"), dA (tp 73), .stmts (dB (tp 73)), dS (tp 73), 0, [], .none, .none, .none, .none, .none, .none, .none, 0⟩), #[]⟩
def o949z (P : Params) : Obj := ⟨(.type "code"), .none, (.fields #[(.str (Z "run") 1486), (.str (Z "run") 1487), (.str (Z "/claim/cut.py") 1488), (.int 417 0), (.int 4 0), (.int 0 0), (.int 0 0), (.int 3 0), (R 944), (.bool true), (.int 181 0), (R 945), .none, (R 946), (R 947), (R 948), (.int 1496 0), (.int 417 0), (.str (Z "/claim/cut.py") 1497)]), #[]⟩
def o950z (P : Params) : Obj := ⟨(.type "function"), .none, (.func ⟨(Z "run"), (Z "run"), dA (tp 73), .stmts (dB (tp 73)), dS (tp 73), 3, [], (R 943), .none, .none, (.str (Z "heldground.runs") 1258), .none, (R 949), .none, 0⟩), #[]⟩
def o951z (P : Params) : Obj := ⟨(.type "tuple"), .none, (.seq #[(.str (Z "2") 1501), (.str (Z "3") 1502), (.str (Z "4") 1503)] 0), #[]⟩
def o952z (P : Params) : Obj := ⟨(.type "tuple"), .none, (.seq #[(.str (Z "0") 1505), (.str (Z "1") 1506), (.str (Z "2") 1507)] 0), #[]⟩
def o953z (P : Params) : Obj := ⟨(.type "tuple"), .none, (.seq #[] 0), #[]⟩
def o954z (P : Params) : Obj := ⟨.none, .none, (.fields #[]), #[]⟩
def o955z (P : Params) : Obj := ⟨(.type "tuple"), .none, (.seq #[(.str (Z "words") 1512), (.str (Z "notes") 1513), (.str (Z "many") 1514), (.str (Z "found") 1515), (.str (Z "turn") 1516)] 0), #[]⟩
def o956z (P : Params) : Obj := ⟨(.type "tuple"), .none, (.seq #[] 0), #[]⟩
def o957z (P : Params) : Obj := ⟨.none, .none, (.func ⟨(Z "test_of"), (Z "test_of"), dA (tp 77), .stmts (dB (tp 77)), dS (tp 77), 0, [], .none, .none, .none, .none, .none, .none, .none, 0⟩), #[]⟩
def o958z (P : Params) : Obj := ⟨(.type "code"), .none, (.fields #[(.str (Z "test_of") 1509), (.str (Z "test_of") 1510), (.str (Z "/claim/cut.py") 1511), (.int 429 0), (.int 2 0), (.int 0 0), (.int 0 0), (.int 3 0), (R 953), (.bool true), (.int 181 0), (R 954), .none, (R 955), (R 956), (R 957), (.int 1517 0), (.int 429 0), (.str (Z "/claim/cut.py") 1518)]), #[]⟩
def o959z (P : Params) : Obj := ⟨(.type "function"), .none, (.func ⟨(Z "test_of"), (Z "test_of"), dA (tp 77), .stmts (dB (tp 77)), dS (tp 77), 3, [], .none, .none, .none, (.str (Z "heldground.rowreader") 1499), .none, (R 958), .none, 0⟩), #[]⟩
def o960z (P : Params) : Obj := ⟨(.type "tuple"), .none, (.seq #[] 0), #[]⟩
def o961z (P : Params) : Obj := ⟨.none, .none, (.fields #[]), #[]⟩
def o962z (P : Params) : Obj := ⟨(.type "tuple"), .none, (.seq #[(.str (Z "words") 1523), (.str (Z "notes") 1524), (.str (Z "number") 1525)] 0), #[]⟩
def o963z (P : Params) : Obj := ⟨(.type "tuple"), .none, (.seq #[] 0), #[]⟩
def o964z (P : Params) : Obj := ⟨.none, .none, (.func ⟨(Z "plain_test"), (Z "plain_test"), dA (tp 78), .stmts (dB (tp 78)), dS (tp 78), 0, [], .none, .none, .none, .none, .none, .none, .none, 0⟩), #[]⟩
def o965z (P : Params) : Obj := ⟨(.type "code"), .none, (.fields #[(.str (Z "plain_test") 1520), (.str (Z "plain_test") 1521), (.str (Z "/claim/cut.py") 1522), (.int 438 0), (.int 2 0), (.int 0 0), (.int 0 0), (.int 3 0), (R 960), (.bool true), (.int 181 0), (R 961), .none, (R 962), (R 963), (R 964), (.int 1526 0), (.int 438 0), (.str (Z "/claim/cut.py") 1527)]), #[]⟩
def o966z (P : Params) : Obj := ⟨(.type "function"), .none, (.func ⟨(Z "plain_test"), (Z "plain_test"), dA (tp 78), .stmts (dB (tp 78)), dS (tp 78), 3, [], .none, .none, .none, (.str (Z "heldground.rowreader") 1499), .none, (R 965), .none, 0⟩), #[]⟩
def o967z (P : Params) : Obj := ⟨(.type "tuple"), .none, (.seq #[] 0), #[]⟩
def o968z (P : Params) : Obj := ⟨.none, .none, (.fields #[]), #[]⟩
def o969z (P : Params) : Obj := ⟨(.type "tuple"), .none, (.seq #[(.str (Z "word") 1532), (.str (Z "slot") 1533)] 0), #[]⟩
def o970z (P : Params) : Obj := ⟨(.type "tuple"), .none, (.seq #[] 0), #[]⟩
def o971z (P : Params) : Obj := ⟨.none, .none, (.func ⟨(Z "slot_test"), (Z "slot_test"), dA (tp 79), .stmts (dB (tp 79)), dS (tp 79), 0, [], .none, .none, .none, .none, .none, .none, .none, 0⟩), #[]⟩
def o972z (P : Params) : Obj := ⟨(.type "code"), .none, (.fields #[(.str (Z "slot_test") 1529), (.str (Z "slot_test") 1530), (.str (Z "/claim/cut.py") 1531), (.int 447 0), (.int 2 0), (.int 0 0), (.int 0 0), (.int 3 0), (R 967), (.bool true), (.int 181 0), (R 968), .none, (R 969), (R 970), (R 971), (.int 1534 0), (.int 447 0), (.str (Z "/claim/cut.py") 1535)]), #[]⟩
def o973z (P : Params) : Obj := ⟨(.type "function"), .none, (.func ⟨(Z "slot_test"), (Z "slot_test"), dA (tp 79), .stmts (dB (tp 79)), dS (tp 79), 3, [], .none, .none, .none, (.str (Z "heldground.rowreader") 1499), .none, (R 972), .none, 0⟩), #[]⟩
def o974z (P : Params) : Obj := ⟨(.type "tuple"), .none, (.seq #[] 0), #[]⟩
def o975z (P : Params) : Obj := ⟨.none, .none, (.fields #[]), #[]⟩
def o976z (P : Params) : Obj := ⟨(.type "tuple"), .none, (.seq #[(.str (Z "words") 1540), (.str (Z "notes") 1541), (.str (Z "number") 1542)] 0), #[]⟩
def o977z (P : Params) : Obj := ⟨(.type "tuple"), .none, (.seq #[] 0), #[]⟩
def o978z (P : Params) : Obj := ⟨.none, .none, (.func ⟨(Z "note_row"), (Z "note_row"), dA (tp 80), .stmts (dB (tp 80)), dS (tp 80), 0, [], .none, .none, .none, .none, .none, .none, .none, 0⟩), #[]⟩
def o979z (P : Params) : Obj := ⟨(.type "code"), .none, (.fields #[(.str (Z "note_row") 1537), (.str (Z "note_row") 1538), (.str (Z "/claim/cut.py") 1539), (.int 455 0), (.int 2 0), (.int 0 0), (.int 0 0), (.int 3 0), (R 974), (.bool true), (.int 181 0), (R 975), .none, (R 976), (R 977), (R 978), (.int 1543 0), (.int 455 0), (.str (Z "/claim/cut.py") 1544)]), #[]⟩
def o980z (P : Params) : Obj := ⟨(.type "function"), .none, (.func ⟨(Z "note_row"), (Z "note_row"), dA (tp 80), .stmts (dB (tp 80)), dS (tp 80), 3, [], .none, .none, .none, (.str (Z "heldground.rowreader") 1499), .none, (R 979), .none, 0⟩), #[]⟩
def o981z (P : Params) : Obj := ⟨(.type "tuple"), .none, (.seq #[] 0), #[]⟩
def o982z (P : Params) : Obj := ⟨.none, .none, (.fields #[]), #[]⟩
def o983z (P : Params) : Obj := ⟨(.type "tuple"), .none, (.seq #[(.str (Z "words") 1549)] 0), #[]⟩
def o984z (P : Params) : Obj := ⟨(.type "tuple"), .none, (.seq #[] 0), #[]⟩
def o985z (P : Params) : Obj := ⟨.none, .none, (.func ⟨(Z "slot_row"), (Z "slot_row"), dA (tp 81), .stmts (dB (tp 81)), dS (tp 81), 0, [], .none, .none, .none, .none, .none, .none, .none, 0⟩), #[]⟩
def o986z (P : Params) : Obj := ⟨(.type "code"), .none, (.fields #[(.str (Z "slot_row") 1546), (.str (Z "slot_row") 1547), (.str (Z "/claim/cut.py") 1548), (.int 462 0), (.int 1 0), (.int 0 0), (.int 0 0), (.int 3 0), (R 981), (.bool true), (.int 181 0), (R 982), .none, (R 983), (R 984), (R 985), (.int 1550 0), (.int 462 0), (.str (Z "/claim/cut.py") 1551)]), #[]⟩
def o987z (P : Params) : Obj := ⟨(.type "function"), .none, (.func ⟨(Z "slot_row"), (Z "slot_row"), dA (tp 81), .stmts (dB (tp 81)), dS (tp 81), 3, [], .none, .none, .none, (.str (Z "heldground.rowreader") 1499), .none, (R 986), .none, 0⟩), #[]⟩
def o988z (P : Params) : Obj := ⟨(.type "tuple"), .none, (.seq #[] 0), #[]⟩
def o989z (P : Params) : Obj := ⟨.none, .none, (.fields #[]), #[]⟩
def o990z (P : Params) : Obj := ⟨(.type "tuple"), .none, (.seq #[(.str (Z "words") 1556), (.str (Z "notes") 1557), (.str (Z "text") 1558)] 0), #[]⟩
def o991z (P : Params) : Obj := ⟨(.type "tuple"), .none, (.seq #[] 0), #[]⟩
def o992z (P : Params) : Obj := ⟨.none, .none, (.func ⟨(Z "row_of"), (Z "row_of"), dA (tp 82), .stmts (dB (tp 82)), dS (tp 82), 0, [], .none, .none, .none, .none, .none, .none, .none, 0⟩), #[]⟩
def o993z (P : Params) : Obj := ⟨(.type "code"), .none, (.fields #[(.str (Z "row_of") 1553), (.str (Z "row_of") 1554), (.str (Z "/claim/cut.py") 1555), (.int 470 0), (.int 2 0), (.int 0 0), (.int 0 0), (.int 3 0), (R 988), (.bool true), (.int 181 0), (R 989), .none, (R 990), (R 991), (R 992), (.int 1559 0), (.int 470 0), (.str (Z "/claim/cut.py") 1560)]), #[]⟩
def o994z (P : Params) : Obj := ⟨(.type "function"), .none, (.func ⟨(Z "row_of"), (Z "row_of"), dA (tp 82), .stmts (dB (tp 82)), dS (tp 82), 3, [], .none, .none, .none, (.str (Z "heldground.rowreader") 1499), .none, (R 993), .none, 0⟩), #[]⟩
def o995z (P : Params) : Obj := ⟨(.type "tuple"), .none, (.seq #[] 0), #[]⟩
def o996z (P : Params) : Obj := ⟨(.type "builtin_function_or_method"), .none, (.fields #[(.builtin "type.__prepare__"), (.type "type")]), #[]⟩
def o997z (P : Params) : Obj := ⟨(.type "dict"), .none, (.dict #[⟨PyData.keyHash P (Z "__module__"), (.str (Z "__module__") 1569), (.str (Z "heldground.rowreader") 1499)⟩, ⟨PyData.keyHash P (Z "__qualname__"), (.str (Z "__qualname__") 1571), (.str (Z "Block") 1570)⟩, ⟨PyData.keyHash P (Z "__firstlineno__"), (.str (Z "__firstlineno__") 1573), (.int 485 1572)⟩, ⟨PyData.keyHash P (Z "__init__"), (.str (Z "__init__") 1581), (R 1008)⟩, ⟨PyData.keyHash P (Z "__static_attributes__"), (.str (Z "__static_attributes__") 1585), (R 1009)⟩] 5), #[]⟩
def o998z (P : Params) : Obj := ⟨(.type "tuple"), .none, (.seq #[] 0), #[]⟩
def o999z (P : Params) : Obj := ⟨.none, .none, (.fields #[(.int 487 0), (.int 4 0), (R 1007)]), #[]⟩
def o1000z (P : Params) : Obj := ⟨(.type "code"), .none, (.fields #[(.str (Z "Block") 1564), (.str (Z "Block") 1565), (.str (Z "/claim/cut.py") 1566), (.int 485 0), (.int 0 0), (.int 0 0), (.int 0 0), (.int 0 0), (R 998), (.bool false), (.int 181 0), (R 999), .none, .none, .none, .none, (.int 1567 0), (.int 485 0), (.str (Z "/claim/cut.py") 1568)]), #[]⟩
def o1001z (P : Params) : Obj := ⟨(.type "frame"), .none, .plain, #[(.some (R 1000)), (.some (R 3)), (.some (R 997)), .none, (.some (.str (Z "heldground.rowreader") 1499)), .none, (.some (R 0))]⟩
def o1002z (P : Params) : Obj := ⟨(.type "tuple"), .none, (.seq #[] 0), #[]⟩
def o1003z (P : Params) : Obj := ⟨.none, .none, (.fields #[]), #[]⟩
def o1004z (P : Params) : Obj := ⟨(.type "tuple"), .none, (.seq #[(.str (Z "self") 1577), (.str (Z "test") 1578)] 0), #[]⟩
def o1005z (P : Params) : Obj := ⟨(.type "tuple"), .none, (.seq #[] 0), #[]⟩
def o1006z (P : Params) : Obj := ⟨.none, .none, (.func ⟨(Z "__init__"), (Z "Block.__init__"), dA (ic (tp 83) 0), .stmts (dB (ic (tp 83) 0)), dS (ic (tp 83) 0), 0, [], .none, .none, .none, .none, .none, .none, .none, 0⟩), #[]⟩
def o1007z (P : Params) : Obj := ⟨(.type "code"), .none, (.fields #[(.str (Z "__init__") 1574), (.str (Z "Block.__init__") 1575), (.str (Z "/claim/cut.py") 1576), (.int 487 0), (.int 2 0), (.int 0 0), (.int 0 0), (.int 3 0), (R 1002), (.bool true), (.int 181 0), (R 1003), .none, (R 1004), (R 1005), (R 1006), (.int 1579 0), (.int 487 0), (.str (Z "/claim/cut.py") 1580)]), #[]⟩
def o1008z (P : Params) : Obj := ⟨(.type "function"), .none, (.func ⟨(Z "__init__"), (Z "Block.__init__"), dA (ic (tp 83) 0), .stmts (dB (ic (tp 83) 0)), dS (ic (tp 83) 0), 3, [], .none, .none, .none, (.str (Z "heldground.rowreader") 1499), .none, (R 1007), .none, 0⟩), #[]⟩
def o1009z (P : Params) : Obj := ⟨(.type "tuple"), .none, (.seq #[(.str (Z "ahead") 1582), (.str (Z "asks") 1583), (.str (Z "found") 1584)] 0), #[]⟩
def o1010z (P : Params) : Obj := ⟨(.type "dict"), .none, (.dict #[⟨PyData.keyHash P (Z "__module__"), (.str (Z "__module__") 1569), (.str (Z "heldground.rowreader") 1499)⟩, ⟨PyData.keyHash P (Z "__firstlineno__"), (.str (Z "__firstlineno__") 1573), (.int 485 1572)⟩, ⟨PyData.keyHash P (Z "__init__"), (.str (Z "__init__") 1581), (R 1008)⟩, ⟨PyData.keyHash P (Z "__static_attributes__"), (.str (Z "__static_attributes__") 1585), (R 1009)⟩, ⟨PyData.keyHash P (Z "__dict__"), (.str (Z "__dict__") 1587), (R 1012)⟩, ⟨PyData.keyHash P (Z "__weakref__"), (.str (Z "__weakref__") 1589), (R 1013)⟩, ⟨PyData.keyHash P (Z "__doc__"), (.str (Z "__doc__") 1590), .none⟩] 4), #[]⟩
def o1011z (P : Params) : Obj := ⟨(.type "type"), .none, (.cls ⟨(Z "Block"), [(.type "object")], [(R 1011), (.type "object")], 1010, (Z "Block"), true, [], [], false, .none, false⟩), #[.none, .none, (.some (.str (Z "Block") 1562)), (.some (.str (Z "Block") 1570)), (.some (.builtin "object.__new__")), (.some (.bool true))]⟩
def o1012z (P : Params) : Obj := ⟨(.type "getset_descriptor"), .none, (.fields #[(.str (Z "__dict__") 1586), (R 1011), (.builtin "function.__dict__"), (.builtin "function.__dict__#set")]), #[]⟩
def o1013z (P : Params) : Obj := ⟨(.type "getset_descriptor"), .none, (.fields #[(.str (Z "__weakref__") 1588), (R 1011), (.builtin "ExceptionGroup.__weakref__"), .none]), #[]⟩
def o1014z (P : Params) : Obj := ⟨(.type "super"), .none, (.fields #[(R 1011), (R 1011), (R 1011)]), #[]⟩
def o1015z (P : Params) : Obj := ⟨(.type "builtin_function_or_method"), .none, (.fields #[(.builtin "object.__init_subclass__"), (R 1011)]), #[]⟩
def o1016z (P : Params) : Obj := ⟨(.type "tuple"), .none, (.seq #[] 0), #[]⟩
def o1017z (P : Params) : Obj := ⟨(.type "builtin_function_or_method"), .none, (.fields #[(.builtin "type.__prepare__"), (.type "type")]), #[]⟩
def o1018z (P : Params) : Obj := ⟨(.type "dict"), .none, (.dict #[⟨PyData.keyHash P (Z "__module__"), (.str (Z "__module__") 1600), (.str (Z "heldground.rowreader") 1499)⟩, ⟨PyData.keyHash P (Z "__qualname__"), (.str (Z "__qualname__") 1602), (.str (Z "Reader") 1601)⟩, ⟨PyData.keyHash P (Z "__firstlineno__"), (.str (Z "__firstlineno__") 1604), (.int 491 1603)⟩, ⟨PyData.keyHash P (Z "__init__"), (.str (Z "__init__") 1611), (R 1029)⟩, ⟨PyData.keyHash P (Z "read_line"), (.str (Z "read_line") 1622), (R 1036)⟩, ⟨PyData.keyHash P (Z "read_note"), (.str (Z "read_note") 1631), (R 1043)⟩, ⟨PyData.keyHash P (Z "open_block"), (.str (Z "open_block") 1639), (R 1050)⟩, ⟨PyData.keyHash P (Z "turn_over"), (.str (Z "turn_over") 1647), (R 1057)⟩, ⟨PyData.keyHash P (Z "close"), (.str (Z "close") 1656), (R 1064)⟩, ⟨PyData.keyHash P (Z "__static_attributes__"), (.str (Z "__static_attributes__") 1659), (R 1065)⟩] 10), #[]⟩
def o1019z (P : Params) : Obj := ⟨(.type "tuple"), .none, (.seq #[] 0), #[]⟩
def o1020z (P : Params) : Obj := ⟨.none, .none, (.fields #[(.int 493 0), (.int 4 0), (R 1028), (.int 497 0), (.int 4 0), (R 1035), (.int 513 0), (.int 4 0), (R 1042), (.int 521 0), (.int 4 0), (R 1049), (.int 527 0), (.int 4 0), (R 1056), (.int 535 0), (.int 4 0), (R 1063)]), #[]⟩
def o1021z (P : Params) : Obj := ⟨(.type "code"), .none, (.fields #[(.str (Z "Reader") 1595), (.str (Z "Reader") 1596), (.str (Z "/claim/cut.py") 1597), (.int 491 0), (.int 0 0), (.int 0 0), (.int 0 0), (.int 0 0), (R 1019), (.bool false), (.int 181 0), (R 1020), .none, .none, .none, .none, (.int 1598 0), (.int 491 0), (.str (Z "/claim/cut.py") 1599)]), #[]⟩
def o1022z (P : Params) : Obj := ⟨(.type "frame"), .none, .plain, #[(.some (R 1021)), (.some (R 3)), (.some (R 1018)), .none, (.some (.str (Z "heldground.rowreader") 1499)), .none, (.some (R 0))]⟩
def o1023z (P : Params) : Obj := ⟨(.type "tuple"), .none, (.seq #[] 0), #[]⟩
def o1024z (P : Params) : Obj := ⟨.none, .none, (.fields #[]), #[]⟩
def o1025z (P : Params) : Obj := ⟨(.type "tuple"), .none, (.seq #[(.str (Z "self") 1608)] 0), #[]⟩
def o1026z (P : Params) : Obj := ⟨(.type "tuple"), .none, (.seq #[] 0), #[]⟩
def o1027z (P : Params) : Obj := ⟨.none, .none, (.func ⟨(Z "__init__"), (Z "Reader.__init__"), dA (ic (tp 84) 0), .stmts (dB (ic (tp 84) 0)), dS (ic (tp 84) 0), 0, [], .none, .none, .none, .none, .none, .none, .none, 0⟩), #[]⟩
def o1028z (P : Params) : Obj := ⟨(.type "code"), .none, (.fields #[(.str (Z "__init__") 1605), (.str (Z "Reader.__init__") 1606), (.str (Z "/claim/cut.py") 1607), (.int 493 0), (.int 1 0), (.int 0 0), (.int 0 0), (.int 3 0), (R 1023), (.bool true), (.int 181 0), (R 1024), .none, (R 1025), (R 1026), (R 1027), (.int 1609 0), (.int 493 0), (.str (Z "/claim/cut.py") 1610)]), #[]⟩
def o1029z (P : Params) : Obj := ⟨(.type "function"), .none, (.func ⟨(Z "__init__"), (Z "Reader.__init__"), dA (ic (tp 84) 0), .stmts (dB (ic (tp 84) 0)), dS (ic (tp 84) 0), 3, [], .none, .none, .none, (.str (Z "heldground.rowreader") 1499), .none, (R 1028), .none, 0⟩), #[]⟩
def o1030z (P : Params) : Obj := ⟨(.type "tuple"), .none, (.seq #[] 0), #[]⟩
def o1031z (P : Params) : Obj := ⟨.none, .none, (.fields #[]), #[]⟩
def o1032z (P : Params) : Obj := ⟨(.type "tuple"), .none, (.seq #[(.str (Z "self") 1615), (.str (Z "words") 1616), (.str (Z "at") 1617), (.str (Z "word") 1618), (.str (Z "row") 1619)] 0), #[]⟩
def o1033z (P : Params) : Obj := ⟨(.type "tuple"), .none, (.seq #[] 0), #[]⟩
def o1034z (P : Params) : Obj := ⟨.none, .none, (.func ⟨(Z "read_line"), (Z "Reader.read_line"), dA (ic (tp 84) 1), .stmts (dB (ic (tp 84) 1)), dS (ic (tp 84) 1), 0, [], .none, .none, .none, .none, .none, .none, .none, 0⟩), #[]⟩
def o1035z (P : Params) : Obj := ⟨(.type "code"), .none, (.fields #[(.str (Z "read_line") 1612), (.str (Z "Reader.read_line") 1613), (.str (Z "/claim/cut.py") 1614), (.int 497 0), (.int 3 0), (.int 0 0), (.int 0 0), (.int 3 0), (R 1030), (.bool true), (.int 181 0), (R 1031), .none, (R 1032), (R 1033), (R 1034), (.int 1620 0), (.int 497 0), (.str (Z "/claim/cut.py") 1621)]), #[]⟩
def o1036z (P : Params) : Obj := ⟨(.type "function"), .none, (.func ⟨(Z "read_line"), (Z "Reader.read_line"), dA (ic (tp 84) 1), .stmts (dB (ic (tp 84) 1)), dS (ic (tp 84) 1), 3, [], .none, .none, .none, (.str (Z "heldground.rowreader") 1499), .none, (R 1035), .none, 0⟩), #[]⟩
def o1037z (P : Params) : Obj := ⟨(.type "tuple"), .none, (.seq #[] 0), #[]⟩
def o1038z (P : Params) : Obj := ⟨.none, .none, (.fields #[]), #[]⟩
def o1039z (P : Params) : Obj := ⟨(.type "tuple"), .none, (.seq #[(.str (Z "self") 1626), (.str (Z "words") 1627), (.str (Z "at") 1628)] 0), #[]⟩
def o1040z (P : Params) : Obj := ⟨(.type "tuple"), .none, (.seq #[] 0), #[]⟩
def o1041z (P : Params) : Obj := ⟨.none, .none, (.func ⟨(Z "read_note"), (Z "Reader.read_note"), dA (ic (tp 84) 2), .stmts (dB (ic (tp 84) 2)), dS (ic (tp 84) 2), 0, [], .none, .none, .none, .none, .none, .none, .none, 0⟩), #[]⟩
def o1042z (P : Params) : Obj := ⟨(.type "code"), .none, (.fields #[(.str (Z "read_note") 1623), (.str (Z "Reader.read_note") 1624), (.str (Z "/claim/cut.py") 1625), (.int 513 0), (.int 3 0), (.int 0 0), (.int 0 0), (.int 3 0), (R 1037), (.bool true), (.int 181 0), (R 1038), .none, (R 1039), (R 1040), (R 1041), (.int 1629 0), (.int 513 0), (.str (Z "/claim/cut.py") 1630)]), #[]⟩
def o1043z (P : Params) : Obj := ⟨(.type "function"), .none, (.func ⟨(Z "read_note"), (Z "Reader.read_note"), dA (ic (tp 84) 2), .stmts (dB (ic (tp 84) 2)), dS (ic (tp 84) 2), 3, [], .none, .none, .none, (.str (Z "heldground.rowreader") 1499), .none, (R 1042), .none, 0⟩), #[]⟩
def o1044z (P : Params) : Obj := ⟨(.type "tuple"), .none, (.seq #[] 0), #[]⟩
def o1045z (P : Params) : Obj := ⟨.none, .none, (.fields #[]), #[]⟩
def o1046z (P : Params) : Obj := ⟨(.type "tuple"), .none, (.seq #[(.str (Z "self") 1635), (.str (Z "test") 1636)] 0), #[]⟩
def o1047z (P : Params) : Obj := ⟨(.type "tuple"), .none, (.seq #[] 0), #[]⟩
def o1048z (P : Params) : Obj := ⟨.none, .none, (.func ⟨(Z "open_block"), (Z "Reader.open_block"), dA (ic (tp 84) 3), .stmts (dB (ic (tp 84) 3)), dS (ic (tp 84) 3), 0, [], .none, .none, .none, .none, .none, .none, .none, 0⟩), #[]⟩
def o1049z (P : Params) : Obj := ⟨(.type "code"), .none, (.fields #[(.str (Z "open_block") 1632), (.str (Z "Reader.open_block") 1633), (.str (Z "/claim/cut.py") 1634), (.int 521 0), (.int 2 0), (.int 0 0), (.int 0 0), (.int 3 0), (R 1044), (.bool true), (.int 181 0), (R 1045), .none, (R 1046), (R 1047), (R 1048), (.int 1637 0), (.int 521 0), (.str (Z "/claim/cut.py") 1638)]), #[]⟩
def o1050z (P : Params) : Obj := ⟨(.type "function"), .none, (.func ⟨(Z "open_block"), (Z "Reader.open_block"), dA (ic (tp 84) 3), .stmts (dB (ic (tp 84) 3)), dS (ic (tp 84) 3), 3, [], .none, .none, .none, (.str (Z "heldground.rowreader") 1499), .none, (R 1049), .none, 0⟩), #[]⟩
def o1051z (P : Params) : Obj := ⟨(.type "tuple"), .none, (.seq #[] 0), #[]⟩
def o1052z (P : Params) : Obj := ⟨.none, .none, (.fields #[]), #[]⟩
def o1053z (P : Params) : Obj := ⟨(.type "tuple"), .none, (.seq #[(.str (Z "self") 1643), (.str (Z "here") 1644)] 0), #[]⟩
def o1054z (P : Params) : Obj := ⟨(.type "tuple"), .none, (.seq #[] 0), #[]⟩
def o1055z (P : Params) : Obj := ⟨.none, .none, (.func ⟨(Z "turn_over"), (Z "Reader.turn_over"), dA (ic (tp 84) 4), .stmts (dB (ic (tp 84) 4)), dS (ic (tp 84) 4), 0, [], .none, .none, .none, .none, .none, .none, .none, 0⟩), #[]⟩
def o1056z (P : Params) : Obj := ⟨(.type "code"), .none, (.fields #[(.str (Z "turn_over") 1640), (.str (Z "Reader.turn_over") 1641), (.str (Z "/claim/cut.py") 1642), (.int 527 0), (.int 1 0), (.int 0 0), (.int 0 0), (.int 3 0), (R 1051), (.bool true), (.int 181 0), (R 1052), .none, (R 1053), (R 1054), (R 1055), (.int 1645 0), (.int 527 0), (.str (Z "/claim/cut.py") 1646)]), #[]⟩
def o1057z (P : Params) : Obj := ⟨(.type "function"), .none, (.func ⟨(Z "turn_over"), (Z "Reader.turn_over"), dA (ic (tp 84) 4), .stmts (dB (ic (tp 84) 4)), dS (ic (tp 84) 4), 3, [], .none, .none, .none, (.str (Z "heldground.rowreader") 1499), .none, (R 1056), .none, 0⟩), #[]⟩
def o1058z (P : Params) : Obj := ⟨(.type "tuple"), .none, (.seq #[] 0), #[]⟩
def o1059z (P : Params) : Obj := ⟨.none, .none, (.fields #[]), #[]⟩
def o1060z (P : Params) : Obj := ⟨(.type "tuple"), .none, (.seq #[(.str (Z "self") 1651), (.str (Z "here") 1652), (.str (Z "row") 1653)] 0), #[]⟩
def o1061z (P : Params) : Obj := ⟨(.type "tuple"), .none, (.seq #[] 0), #[]⟩
def o1062z (P : Params) : Obj := ⟨.none, .none, (.func ⟨(Z "close"), (Z "Reader.close"), dA (ic (tp 84) 5), .stmts (dB (ic (tp 84) 5)), dS (ic (tp 84) 5), 0, [], .none, .none, .none, .none, .none, .none, .none, 0⟩), #[]⟩
def o1063z (P : Params) : Obj := ⟨(.type "code"), .none, (.fields #[(.str (Z "close") 1648), (.str (Z "Reader.close") 1649), (.str (Z "/claim/cut.py") 1650), (.int 535 0), (.int 1 0), (.int 0 0), (.int 0 0), (.int 3 0), (R 1058), (.bool true), (.int 181 0), (R 1059), .none, (R 1060), (R 1061), (R 1062), (.int 1654 0), (.int 535 0), (.str (Z "/claim/cut.py") 1655)]), #[]⟩
def o1064z (P : Params) : Obj := ⟨(.type "function"), .none, (.func ⟨(Z "close"), (Z "Reader.close"), dA (ic (tp 84) 5), .stmts (dB (ic (tp 84) 5)), dS (ic (tp 84) 5), 3, [], .none, .none, .none, (.str (Z "heldground.rowreader") 1499), .none, (R 1063), .none, 0⟩), #[]⟩
def o1065z (P : Params) : Obj := ⟨(.type "tuple"), .none, (.seq #[(.str (Z "blocks") 1657), (.str (Z "known") 1658)] 0), #[]⟩
def o1066z (P : Params) : Obj := ⟨(.type "dict"), .none, (.dict #[⟨PyData.keyHash P (Z "__module__"), (.str (Z "__module__") 1600), (.str (Z "heldground.rowreader") 1499)⟩, ⟨PyData.keyHash P (Z "__firstlineno__"), (.str (Z "__firstlineno__") 1604), (.int 491 1603)⟩, ⟨PyData.keyHash P (Z "__init__"), (.str (Z "__init__") 1611), (R 1029)⟩, ⟨PyData.keyHash P (Z "read_line"), (.str (Z "read_line") 1622), (R 1036)⟩, ⟨PyData.keyHash P (Z "read_note"), (.str (Z "read_note") 1631), (R 1043)⟩, ⟨PyData.keyHash P (Z "open_block"), (.str (Z "open_block") 1639), (R 1050)⟩, ⟨PyData.keyHash P (Z "turn_over"), (.str (Z "turn_over") 1647), (R 1057)⟩, ⟨PyData.keyHash P (Z "close"), (.str (Z "close") 1656), (R 1064)⟩, ⟨PyData.keyHash P (Z "__static_attributes__"), (.str (Z "__static_attributes__") 1659), (R 1065)⟩, ⟨PyData.keyHash P (Z "__dict__"), (.str (Z "__dict__") 1661), (R 1068)⟩, ⟨PyData.keyHash P (Z "__weakref__"), (.str (Z "__weakref__") 1663), (R 1069)⟩, ⟨PyData.keyHash P (Z "__doc__"), (.str (Z "__doc__") 1664), .none⟩] 4), #[]⟩
def o1067z (P : Params) : Obj := ⟨(.type "type"), .none, (.cls ⟨(Z "Reader"), [(.type "object")], [(R 1067), (.type "object")], 1066, (Z "Reader"), true, [], [], false, .none, false⟩), #[.none, .none, (.some (.str (Z "Reader") 1593)), (.some (.str (Z "Reader") 1601)), (.some (.builtin "object.__new__")), (.some (.bool true))]⟩
def o1068z (P : Params) : Obj := ⟨(.type "getset_descriptor"), .none, (.fields #[(.str (Z "__dict__") 1660), (R 1067), (.builtin "function.__dict__"), (.builtin "function.__dict__#set")]), #[]⟩
def o1069z (P : Params) : Obj := ⟨(.type "getset_descriptor"), .none, (.fields #[(.str (Z "__weakref__") 1662), (R 1067), (.builtin "ExceptionGroup.__weakref__"), .none]), #[]⟩
def o1070z (P : Params) : Obj := ⟨(.type "super"), .none, (.fields #[(R 1067), (R 1067), (R 1067)]), #[]⟩
def o1071z (P : Params) : Obj := ⟨(.type "builtin_function_or_method"), .none, (.fields #[(.builtin "object.__init_subclass__"), (R 1067)]), #[]⟩
def o1072z (P : Params) : Obj := ⟨(.type "tuple"), .none, (.seq #[] 0), #[]⟩
def o1073z (P : Params) : Obj := ⟨.none, .none, (.fields #[]), #[]⟩
def o1074z (P : Params) : Obj := ⟨.none, .none, (.func ⟨(Z "read_lines"), (Z "read_lines"), dA (tp 85), .stmts (dB (tp 85)), dS (tp 85), 0, [], .none, .none, .none, .none, .none, .none, .none, 0⟩), #[]⟩
def o1075z (P : Params) : Obj := ⟨(.type "code"), .none, (.fields #[(.str (Z "read_lines") 1667), (.str (Z "read_lines") 1668), (.str (Z "/claim/cut.py") 1669), (.int 542 0), (.int 1 0), (.int 0 0), (.int 0 0), (.int 3 0), (R 1072), (.bool true), (.int 181 0), (R 1073), .none, .none, .none, (R 1074), (.int 1670 0), (.int 542 0), (.str (Z "/claim/cut.py") 1671)]), #[]⟩
def o1076z (P : Params) : Obj := ⟨(.type "function"), .none, (.func ⟨(Z "read_lines"), (Z "read_lines"), dA (tp 85), .stmts (dB (tp 85)), dS (tp 85), 3, [], .none, .none, .none, (.str (Z "heldground.rowreader") 1499), .none, (R 1075), .none, 0⟩), #[]⟩
def o1077z (P : Params) : Obj := ⟨(.type "tuple"), .none, (.seq #[] 0), #[]⟩
def o1078z (P : Params) : Obj := ⟨.none, .none, (.fields #[]), #[]⟩
def o1079z (P : Params) : Obj := ⟨(.type "tuple"), .none, (.seq #[(.str (Z "value") 1682)] 0), #[]⟩
def o1080z (P : Params) : Obj := ⟨(.type "tuple"), .none, (.seq #[] 0), #[]⟩
def o1081z (P : Params) : Obj := ⟨.none, .none, (.func ⟨(Z "is_note"), (Z "is_note"), dA (tp 89), .stmts (dB (tp 89)), dS (tp 89), 0, [], .none, .none, .none, .none, .none, .none, .none, 0⟩), #[]⟩
def o1082z (P : Params) : Obj := ⟨(.type "code"), .none, (.fields #[(.str (Z "is_note") 1679), (.str (Z "is_note") 1680), (.str (Z "/claim/cut.py") 1681), (.int 554 0), (.int 1 0), (.int 0 0), (.int 0 0), (.int 3 0), (R 1077), (.bool true), (.int 181 0), (R 1078), .none, (R 1079), (R 1080), (R 1081), (.int 1683 0), (.int 554 0), (.str (Z "/claim/cut.py") 1684)]), #[]⟩
def o1083z (P : Params) : Obj := ⟨(.type "function"), .none, (.func ⟨(Z "is_note"), (Z "is_note"), dA (tp 89), .stmts (dB (tp 89)), dS (tp 89), 3, [], .none, .none, .none, (.str (Z "heldground.choosers") 1673), .none, (R 1082), .none, 0⟩), #[]⟩
def o1084z (P : Params) : Obj := ⟨(.type "tuple"), .none, (.seq #[] 0), #[]⟩
def o1085z (P : Params) : Obj := ⟨.none, .none, (.fields #[]), #[]⟩
def o1086z (P : Params) : Obj := ⟨(.type "tuple"), .none, (.seq #[(.str (Z "notes") 1689), (.str (Z "known") 1690), (.str (Z "value") 1691)] 0), #[]⟩
def o1087z (P : Params) : Obj := ⟨(.type "tuple"), .none, (.seq #[] 0), #[]⟩
def o1088z (P : Params) : Obj := ⟨.none, .none, (.func ⟨(Z "need_notes"), (Z "need_notes"), dA (tp 90), .stmts (dB (tp 90)), dS (tp 90), 0, [], .none, .none, .none, .none, .none, .none, .none, 0⟩), #[]⟩
def o1089z (P : Params) : Obj := ⟨(.type "code"), .none, (.fields #[(.str (Z "need_notes") 1686), (.str (Z "need_notes") 1687), (.str (Z "/claim/cut.py") 1688), (.int 558 0), (.int 1 0), (.int 0 0), (.int 0 0), (.int 3 0), (R 1084), (.bool true), (.int 181 0), (R 1085), .none, (R 1086), (R 1087), (R 1088), (.int 1692 0), (.int 558 0), (.str (Z "/claim/cut.py") 1693)]), #[]⟩
def o1090z (P : Params) : Obj := ⟨(.type "function"), .none, (.func ⟨(Z "need_notes"), (Z "need_notes"), dA (tp 90), .stmts (dB (tp 90)), dS (tp 90), 3, [], .none, .none, .none, (.str (Z "heldground.choosers") 1673), .none, (R 1089), .none, 0⟩), #[]⟩
def o1091z (P : Params) : Obj := ⟨(.type "tuple"), .none, (.seq #[] 0), #[]⟩
def o1092z (P : Params) : Obj := ⟨.none, .none, (.fields #[]), #[]⟩
def o1093z (P : Params) : Obj := ⟨(.type "tuple"), .none, (.seq #[(.str (Z "rows") 1698), (.str (Z "begin") 1699), (.str (Z "work") 1700), (.str (Z "found") 1701), (.str (Z "at") 1702), (.str (Z "row") 1703)] 0), #[]⟩
def o1094z (P : Params) : Obj := ⟨(.type "tuple"), .none, (.seq #[] 0), #[]⟩
def o1095z (P : Params) : Obj := ⟨.none, .none, (.func ⟨(Z "mapped"), (Z "mapped"), dA (tp 91), .stmts (dB (tp 91)), dS (tp 91), 0, [], .none, .none, .none, .none, .none, .none, .none, 0⟩), #[]⟩
def o1096z (P : Params) : Obj := ⟨(.type "code"), .none, (.fields #[(.str (Z "mapped") 1695), (.str (Z "mapped") 1696), (.str (Z "/claim/cut.py") 1697), (.int 567 0), (.int 3 0), (.int 0 0), (.int 0 0), (.int 3 0), (R 1091), (.bool true), (.int 181 0), (R 1092), .none, (R 1093), (R 1094), (R 1095), (.int 1704 0), (.int 567 0), (.str (Z "/claim/cut.py") 1705)]), #[]⟩
def o1097z (P : Params) : Obj := ⟨(.type "function"), .none, (.func ⟨(Z "mapped"), (Z "mapped"), dA (tp 91), .stmts (dB (tp 91)), dS (tp 91), 3, [], .none, .none, .none, (.str (Z "heldground.choosers") 1673), .none, (R 1096), .none, 0⟩), #[]⟩
def o1098z (P : Params) : Obj := ⟨(.type "tuple"), .none, (.seq #[] 0), #[]⟩
def o1099z (P : Params) : Obj := ⟨.none, .none, (.fields #[]), #[]⟩
def o1100z (P : Params) : Obj := ⟨(.type "tuple"), .none, (.seq #[(.str (Z "row") 1710), (.str (Z "at") 1711), (.str (Z "work") 1712), (.str (Z "turn") 1713)] 0), #[]⟩
def o1101z (P : Params) : Obj := ⟨(.type "tuple"), .none, (.seq #[] 0), #[]⟩
def o1102z (P : Params) : Obj := ⟨.none, .none, (.func ⟨(Z "with_inner"), (Z "with_inner"), dA (tp 92), .stmts (dB (tp 92)), dS (tp 92), 0, [], .none, .none, .none, .none, .none, .none, .none, 0⟩), #[]⟩
def o1103z (P : Params) : Obj := ⟨(.type "code"), .none, (.fields #[(.str (Z "with_inner") 1707), (.str (Z "with_inner") 1708), (.str (Z "/claim/cut.py") 1709), (.int 573 0), (.int 3 0), (.int 0 0), (.int 0 0), (.int 3 0), (R 1098), (.bool true), (.int 181 0), (R 1099), .none, (R 1100), (R 1101), (R 1102), (.int 1714 0), (.int 573 0), (.str (Z "/claim/cut.py") 1715)]), #[]⟩
def o1104z (P : Params) : Obj := ⟨(.type "function"), .none, (.func ⟨(Z "with_inner"), (Z "with_inner"), dA (tp 92), .stmts (dB (tp 92)), dS (tp 92), 3, [], .none, .none, .none, (.str (Z "heldground.choosers") 1673), .none, (R 1103), .none, 0⟩), #[]⟩
def o1105z (P : Params) : Obj := ⟨(.type "tuple"), .none, (.seq #[] 0), #[]⟩
def o1106z (P : Params) : Obj := ⟨.none, .none, (.fields #[]), #[]⟩
def o1107z (P : Params) : Obj := ⟨(.type "tuple"), .none, (.seq #[(.str (Z "rows") 1720), (.str (Z "found") 1721), (.str (Z "row") 1722), (.str (Z "slot") 1723)] 0), #[]⟩
def o1108z (P : Params) : Obj := ⟨(.type "tuple"), .none, (.seq #[] 0), #[]⟩
def o1109z (P : Params) : Obj := ⟨.none, .none, (.func ⟨(Z "most_slots"), (Z "most_slots"), dA (tp 93), .stmts (dB (tp 93)), dS (tp 93), 0, [], .none, .none, .none, .none, .none, .none, .none, 0⟩), #[]⟩
def o1110z (P : Params) : Obj := ⟨(.type "code"), .none, (.fields #[(.str (Z "most_slots") 1717), (.str (Z "most_slots") 1718), (.str (Z "/claim/cut.py") 1719), (.int 578 0), (.int 1 0), (.int 0 0), (.int 0 0), (.int 3 0), (R 1105), (.bool true), (.int 181 0), (R 1106), .none, (R 1107), (R 1108), (R 1109), (.int 1724 0), (.int 578 0), (.str (Z "/claim/cut.py") 1725)]), #[]⟩
def o1111z (P : Params) : Obj := ⟨(.type "function"), .none, (.func ⟨(Z "most_slots"), (Z "most_slots"), dA (tp 93), .stmts (dB (tp 93)), dS (tp 93), 3, [], .none, .none, .none, (.str (Z "heldground.choosers") 1673), .none, (R 1110), .none, 0⟩), #[]⟩
def o1112z (P : Params) : Obj := ⟨(.type "tuple"), .none, (.seq #[] 0), #[]⟩
def o1113z (P : Params) : Obj := ⟨(.type "builtin_function_or_method"), .none, (.fields #[(.builtin "type.__prepare__"), (.type "type")]), #[]⟩
def o1114z (P : Params) : Obj := ⟨(.type "dict"), .none, (.dict #[⟨PyData.keyHash P (Z "__module__"), (.str (Z "__module__") 1734), (.str (Z "heldground.choosers") 1673)⟩, ⟨PyData.keyHash P (Z "__qualname__"), (.str (Z "__qualname__") 1736), (.str (Z "Chooser") 1735)⟩, ⟨PyData.keyHash P (Z "__firstlineno__"), (.str (Z "__firstlineno__") 1738), (.int 584 1737)⟩, ⟨PyData.keyHash P (Z "__init__"), (.str (Z "__init__") 1744), (R 1126)⟩, ⟨PyData.keyHash P (Z "read"), (.str (Z "read") 1766), (R 1135)⟩, ⟨PyData.keyHash P (Z "need"), (.str (Z "need") 1774), (R 1143)⟩, ⟨PyData.keyHash P (Z "without"), (.str (Z "without") 1783), (R 1150)⟩, ⟨PyData.keyHash P (Z "with_guards"), (.str (Z "with_guards") 1791), (R 1157)⟩, ⟨PyData.keyHash P (Z "__len__"), (.str (Z "__len__") 1798), (R 1164)⟩, ⟨PyData.keyHash P (Z "__getitem__"), (.str (Z "__getitem__") 1806), (R 1171)⟩, ⟨PyData.keyHash P (Z "__iter__"), (.str (Z "__iter__") 1813), (R 1178)⟩, ⟨PyData.keyHash P (Z "__add__"), (.str (Z "__add__") 1819), (R 1183)⟩, ⟨PyData.keyHash P (Z "__eq__"), (.str (Z "__eq__") 1827), (R 1190)⟩, ⟨PyData.keyHash P (Z "__str__"), (.str (Z "__str__") 1833), (R 1195)⟩, ⟨PyData.keyHash P (Z "__call__"), (.str (Z "__call__") 1842), (R 1202)⟩, ⟨PyData.keyHash P (Z "__static_attributes__"), (.str (Z "__static_attributes__") 1848), (R 1203)⟩] 16), #[]⟩
def o1115z (P : Params) : Obj := ⟨(.type "tuple"), .none, (.seq #[] 0), #[]⟩
def o1116z (P : Params) : Obj := ⟨.none, .none, (.fields #[(.int 586 0), (.int 4 0), (R 1125), (.int 599 0), (.int 4 0), (R 1132), (.int 603 0), (.int 4 0), (R 1142), (.int 607 0), (.int 4 0), (R 1149), (.int 611 0), (.int 4 0), (R 1156), (.int 614 0), (.int 4 0), (R 1163), (.int 617 0), (.int 4 0), (R 1170), (.int 621 0), (.int 4 0), (R 1177), (.int 624 0), (.int 4 0), (R 1182), (.int 634 0), (.int 4 0), (R 1189), (.int 637 0), (.int 4 0), (R 1194), (.int 641 0), (.int 4 0), (R 1201)]), #[]⟩
def o1117z (P : Params) : Obj := ⟨(.type "code"), .none, (.fields #[(.str (Z "Chooser") 1729), (.str (Z "Chooser") 1730), (.str (Z "/claim/cut.py") 1731), (.int 584 0), (.int 0 0), (.int 0 0), (.int 0 0), (.int 0 0), (R 1115), (.bool false), (.int 181 0), (R 1116), .none, .none, .none, .none, (.int 1732 0), (.int 584 0), (.str (Z "/claim/cut.py") 1733)]), #[]⟩
def o1118z (P : Params) : Obj := ⟨(.type "frame"), .none, .plain, #[(.some (R 1117)), (.some (R 3)), (.some (R 1114)), .none, (.some (.str (Z "heldground.choosers") 1673)), .none, (.some (R 0))]⟩
def o1119z (P : Params) : Obj := ⟨(.type "tuple"), .none, (.seq #[] 0), #[]⟩
def o1120z (P : Params) : Obj := ⟨(.type "tuple"), .none, (.seq #[] 0), #[]⟩
def o1121z (P : Params) : Obj := ⟨(.type "tuple"), .none, (.seq #[(R 1119), (R 1120)] 0), #[]⟩
def o1122z (P : Params) : Obj := ⟨(.type "tuple"), .none, (.seq #[] 0), #[]⟩
def o1123z (P : Params) : Obj := ⟨.none, .none, (.fields #[]), #[]⟩
def o1124z (P : Params) : Obj := ⟨.none, .none, (.func ⟨(Z "__init__"), (Z "Chooser.__init__"), dA (ic (tp 94) 0), .stmts (dB (ic (tp 94) 0)), dS (ic (tp 94) 0), 0, [], .none, .none, .none, .none, .none, .none, .none, 0⟩), #[]⟩
def o1125z (P : Params) : Obj := ⟨(.type "code"), .none, (.fields #[(.str (Z "__init__") 1739), (.str (Z "Chooser.__init__") 1740), (.str (Z "/claim/cut.py") 1741), (.int 586 0), (.int 3 0), (.int 0 0), (.int 0 0), (.int 3 0), (R 1122), (.bool true), (.int 181 0), (R 1123), .none, .none, .none, (R 1124), (.int 1742 0), (.int 586 0), (.str (Z "/claim/cut.py") 1743)]), #[]⟩
def o1126z (P : Params) : Obj := ⟨(.type "function"), .none, (.func ⟨(Z "__init__"), (Z "Chooser.__init__"), dA (ic (tp 94) 0), .stmts (dB (ic (tp 94) 0)), dS (ic (tp 94) 0), 3, [], (R 1121), .none, .none, (.str (Z "heldground.choosers") 1673), .none, (R 1125), .none, 0⟩), #[]⟩
def o1127z (P : Params) : Obj := ⟨(.type "tuple"), .none, (.seq #[] 0), #[]⟩
def o1128z (P : Params) : Obj := ⟨.none, .none, (.fields #[]), #[]⟩
def o1129z (P : Params) : Obj := ⟨(.type "tuple"), .none, (.seq #[(.str (Z "cls") 1748), (.str (Z "text") 1749), (.str (Z "rows") 1750), (.str (Z "notes") 1751)] 0), #[]⟩
def o1130z (P : Params) : Obj := ⟨(.type "tuple"), .none, (.seq #[] 0), #[]⟩
def o1131z (P : Params) : Obj := ⟨.none, .none, (.func ⟨(Z "read"), (Z "Chooser.read"), dA (ic (tp 94) 1), .stmts (dB (ic (tp 94) 1)), dS (ic (tp 94) 1), 0, [], .none, .none, .none, .none, .none, .none, .none, 0⟩), #[]⟩
def o1132z (P : Params) : Obj := ⟨(.type "code"), .none, (.fields #[(.str (Z "read") 1745), (.str (Z "Chooser.read") 1746), (.str (Z "/claim/cut.py") 1747), (.int 598 0), (.int 2 0), (.int 0 0), (.int 0 0), (.int 3 0), (R 1127), (.bool true), (.int 181 0), (R 1128), .none, (R 1129), (R 1130), (R 1131), (.int 1752 0), (.int 598 0), (.str (Z "/claim/cut.py") 1753)]), #[]⟩
def o1133z (P : Params) : Obj := ⟨(.type "function"), .none, (.func ⟨(Z "read"), (Z "Chooser.read"), dA (ic (tp 94) 1), .stmts (dB (ic (tp 94) 1)), dS (ic (tp 94) 1), 3, [], .none, .none, .none, (.str (Z "heldground.choosers") 1673), (.some 1136), (R 1132), .none, 0⟩), #[]⟩
def o1134z (P : Params) : Obj := ⟨(.type "dict"), .none, (.dict #[⟨PyData.keyHash P (Z "__module__"), (.str (Z "__module__") 1755), (.str (Z "heldground.choosers") 1673)⟩, ⟨PyData.keyHash P (Z "__name__"), (.str (Z "__name__") 1758), (.str (Z "read") 1757)⟩, ⟨PyData.keyHash P (Z "__qualname__"), (.str (Z "__qualname__") 1761), (.str (Z "Chooser.read") 1760)⟩, ⟨PyData.keyHash P (Z "__doc__"), (.str (Z "__doc__") 1763), .none⟩, ⟨PyData.keyHash P (Z "__annotations__"), (.str (Z "__annotations__") 1765), (R 1136)⟩] 5), #[]⟩
def o1135z (P : Params) : Obj := ⟨(.type "classmethod"), (.some 1134), (.fields #[(R 1133), (.bool false)]), #[]⟩
def o1136z (P : Params) : Obj := ⟨(.type "dict"), .none, (.dict #[] 0), #[]⟩
def o1137z (P : Params) : Obj := ⟨(.type "tuple"), .none, (.seq #[] 0), #[]⟩
def o1138z (P : Params) : Obj := ⟨.none, .none, (.fields #[]), #[]⟩
def o1139z (P : Params) : Obj := ⟨(.type "tuple"), .none, (.seq #[(.str (Z "self") 1770), (.str (Z "at") 1771)] 0), #[]⟩
def o1140z (P : Params) : Obj := ⟨(.type "tuple"), .none, (.seq #[] 0), #[]⟩
def o1141z (P : Params) : Obj := ⟨.none, .none, (.func ⟨(Z "need"), (Z "Chooser.need"), dA (ic (tp 94) 2), .stmts (dB (ic (tp 94) 2)), dS (ic (tp 94) 2), 0, [], .none, .none, .none, .none, .none, .none, .none, 0⟩), #[]⟩
def o1142z (P : Params) : Obj := ⟨(.type "code"), .none, (.fields #[(.str (Z "need") 1767), (.str (Z "Chooser.need") 1768), (.str (Z "/claim/cut.py") 1769), (.int 603 0), (.int 2 0), (.int 0 0), (.int 0 0), (.int 3 0), (R 1137), (.bool true), (.int 181 0), (R 1138), .none, (R 1139), (R 1140), (R 1141), (.int 1772 0), (.int 603 0), (.str (Z "/claim/cut.py") 1773)]), #[]⟩
def o1143z (P : Params) : Obj := ⟨(.type "function"), .none, (.func ⟨(Z "need"), (Z "Chooser.need"), dA (ic (tp 94) 2), .stmts (dB (ic (tp 94) 2)), dS (ic (tp 94) 2), 3, [], .none, .none, .none, (.str (Z "heldground.choosers") 1673), .none, (R 1142), .none, 0⟩), #[]⟩
def o1144z (P : Params) : Obj := ⟨(.type "tuple"), .none, (.seq #[] 0), #[]⟩
def o1145z (P : Params) : Obj := ⟨.none, .none, (.fields #[]), #[]⟩
def o1146z (P : Params) : Obj := ⟨(.type "tuple"), .none, (.seq #[(.str (Z "self") 1778), (.str (Z "at") 1779)] 0), #[]⟩
def o1147z (P : Params) : Obj := ⟨(.type "tuple"), .none, (.seq #[(.str (Z "at") 1780)] 0), #[]⟩
def o1148z (P : Params) : Obj := ⟨.none, .none, (.func ⟨(Z "without"), (Z "Chooser.without"), dA (ic (tp 94) 3), .stmts (dB (ic (tp 94) 3)), dS (ic (tp 94) 3), 0, [], .none, .none, .none, .none, .none, .none, .none, 0⟩), #[]⟩
def o1149z (P : Params) : Obj := ⟨(.type "code"), .none, (.fields #[(.str (Z "without") 1775), (.str (Z "Chooser.without") 1776), (.str (Z "/claim/cut.py") 1777), (.int 607 0), (.int 2 0), (.int 0 0), (.int 0 0), (.int 3 0), (R 1144), (.bool true), (.int 181 0), (R 1145), .none, (R 1146), (R 1147), (R 1148), (.int 1781 0), (.int 607 0), (.str (Z "/claim/cut.py") 1782)]), #[]⟩
def o1150z (P : Params) : Obj := ⟨(.type "function"), .none, (.func ⟨(Z "without"), (Z "Chooser.without"), dA (ic (tp 94) 3), .stmts (dB (ic (tp 94) 3)), dS (ic (tp 94) 3), 3, [], .none, .none, .none, (.str (Z "heldground.choosers") 1673), .none, (R 1149), .none, 0⟩), #[]⟩
def o1151z (P : Params) : Obj := ⟨(.type "tuple"), .none, (.seq #[] 0), #[]⟩
def o1152z (P : Params) : Obj := ⟨.none, .none, (.fields #[]), #[]⟩
def o1153z (P : Params) : Obj := ⟨(.type "tuple"), .none, (.seq #[(.str (Z "self") 1787), (.str (Z "numbers") 1788)] 0), #[]⟩
def o1154z (P : Params) : Obj := ⟨(.type "tuple"), .none, (.seq #[] 0), #[]⟩
def o1155z (P : Params) : Obj := ⟨.none, .none, (.func ⟨(Z "with_guards"), (Z "Chooser.with_guards"), dA (ic (tp 94) 4), .stmts (dB (ic (tp 94) 4)), dS (ic (tp 94) 4), 0, [], .none, .none, .none, .none, .none, .none, .none, 0⟩), #[]⟩
def o1156z (P : Params) : Obj := ⟨(.type "code"), .none, (.fields #[(.str (Z "with_guards") 1784), (.str (Z "Chooser.with_guards") 1785), (.str (Z "/claim/cut.py") 1786), (.int 611 0), (.int 2 0), (.int 0 0), (.int 0 0), (.int 3 0), (R 1151), (.bool true), (.int 181 0), (R 1152), .none, (R 1153), (R 1154), (R 1155), (.int 1789 0), (.int 611 0), (.str (Z "/claim/cut.py") 1790)]), #[]⟩
def o1157z (P : Params) : Obj := ⟨(.type "function"), .none, (.func ⟨(Z "with_guards"), (Z "Chooser.with_guards"), dA (ic (tp 94) 4), .stmts (dB (ic (tp 94) 4)), dS (ic (tp 94) 4), 3, [], .none, .none, .none, (.str (Z "heldground.choosers") 1673), .none, (R 1156), .none, 0⟩), #[]⟩
def o1158z (P : Params) : Obj := ⟨(.type "tuple"), .none, (.seq #[] 0), #[]⟩
def o1159z (P : Params) : Obj := ⟨.none, .none, (.fields #[]), #[]⟩
def o1160z (P : Params) : Obj := ⟨(.type "tuple"), .none, (.seq #[(.str (Z "self") 1795)] 0), #[]⟩
def o1161z (P : Params) : Obj := ⟨(.type "tuple"), .none, (.seq #[] 0), #[]⟩
def o1162z (P : Params) : Obj := ⟨.none, .none, (.func ⟨(Z "__len__"), (Z "Chooser.__len__"), dA (ic (tp 94) 5), .stmts (dB (ic (tp 94) 5)), dS (ic (tp 94) 5), 0, [], .none, .none, .none, .none, .none, .none, .none, 0⟩), #[]⟩
def o1163z (P : Params) : Obj := ⟨(.type "code"), .none, (.fields #[(.str (Z "__len__") 1792), (.str (Z "Chooser.__len__") 1793), (.str (Z "/claim/cut.py") 1794), (.int 614 0), (.int 1 0), (.int 0 0), (.int 0 0), (.int 3 0), (R 1158), (.bool true), (.int 181 0), (R 1159), .none, (R 1160), (R 1161), (R 1162), (.int 1796 0), (.int 614 0), (.str (Z "/claim/cut.py") 1797)]), #[]⟩
def o1164z (P : Params) : Obj := ⟨(.type "function"), .none, (.func ⟨(Z "__len__"), (Z "Chooser.__len__"), dA (ic (tp 94) 5), .stmts (dB (ic (tp 94) 5)), dS (ic (tp 94) 5), 3, [], .none, .none, .none, (.str (Z "heldground.choosers") 1673), .none, (R 1163), .none, 0⟩), #[]⟩
def o1165z (P : Params) : Obj := ⟨(.type "tuple"), .none, (.seq #[] 0), #[]⟩
def o1166z (P : Params) : Obj := ⟨.none, .none, (.fields #[]), #[]⟩
def o1167z (P : Params) : Obj := ⟨(.type "tuple"), .none, (.seq #[(.str (Z "self") 1802), (.str (Z "at") 1803)] 0), #[]⟩
def o1168z (P : Params) : Obj := ⟨(.type "tuple"), .none, (.seq #[] 0), #[]⟩
def o1169z (P : Params) : Obj := ⟨.none, .none, (.func ⟨(Z "__getitem__"), (Z "Chooser.__getitem__"), dA (ic (tp 94) 6), .stmts (dB (ic (tp 94) 6)), dS (ic (tp 94) 6), 0, [], .none, .none, .none, .none, .none, .none, .none, 0⟩), #[]⟩
def o1170z (P : Params) : Obj := ⟨(.type "code"), .none, (.fields #[(.str (Z "__getitem__") 1799), (.str (Z "Chooser.__getitem__") 1800), (.str (Z "/claim/cut.py") 1801), (.int 617 0), (.int 2 0), (.int 0 0), (.int 0 0), (.int 3 0), (R 1165), (.bool true), (.int 181 0), (R 1166), .none, (R 1167), (R 1168), (R 1169), (.int 1804 0), (.int 617 0), (.str (Z "/claim/cut.py") 1805)]), #[]⟩
def o1171z (P : Params) : Obj := ⟨(.type "function"), .none, (.func ⟨(Z "__getitem__"), (Z "Chooser.__getitem__"), dA (ic (tp 94) 6), .stmts (dB (ic (tp 94) 6)), dS (ic (tp 94) 6), 3, [], .none, .none, .none, (.str (Z "heldground.choosers") 1673), .none, (R 1170), .none, 0⟩), #[]⟩
def o1172z (P : Params) : Obj := ⟨(.type "tuple"), .none, (.seq #[] 0), #[]⟩
def o1173z (P : Params) : Obj := ⟨.none, .none, (.fields #[]), #[]⟩
def o1174z (P : Params) : Obj := ⟨(.type "tuple"), .none, (.seq #[(.str (Z "self") 1810)] 0), #[]⟩
def o1175z (P : Params) : Obj := ⟨(.type "tuple"), .none, (.seq #[] 0), #[]⟩
def o1176z (P : Params) : Obj := ⟨.none, .none, (.func ⟨(Z "__iter__"), (Z "Chooser.__iter__"), dA (ic (tp 94) 7), .stmts (dB (ic (tp 94) 7)), dS (ic (tp 94) 7), 0, [], .none, .none, .none, .none, .none, .none, .none, 0⟩), #[]⟩
def o1177z (P : Params) : Obj := ⟨(.type "code"), .none, (.fields #[(.str (Z "__iter__") 1807), (.str (Z "Chooser.__iter__") 1808), (.str (Z "/claim/cut.py") 1809), (.int 621 0), (.int 1 0), (.int 0 0), (.int 0 0), (.int 3 0), (R 1172), (.bool true), (.int 181 0), (R 1173), .none, (R 1174), (R 1175), (R 1176), (.int 1811 0), (.int 621 0), (.str (Z "/claim/cut.py") 1812)]), #[]⟩
def o1178z (P : Params) : Obj := ⟨(.type "function"), .none, (.func ⟨(Z "__iter__"), (Z "Chooser.__iter__"), dA (ic (tp 94) 7), .stmts (dB (ic (tp 94) 7)), dS (ic (tp 94) 7), 3, [], .none, .none, .none, (.str (Z "heldground.choosers") 1673), .none, (R 1177), .none, 0⟩), #[]⟩
def o1179z (P : Params) : Obj := ⟨(.type "tuple"), .none, (.seq #[] 0), #[]⟩
def o1180z (P : Params) : Obj := ⟨.none, .none, (.fields #[]), #[]⟩
def o1181z (P : Params) : Obj := ⟨.none, .none, (.func ⟨(Z "__add__"), (Z "Chooser.__add__"), dA (ic (tp 94) 8), .stmts (dB (ic (tp 94) 8)), dS (ic (tp 94) 8), 0, [], .none, .none, .none, .none, .none, .none, .none, 0⟩), #[]⟩
def o1182z (P : Params) : Obj := ⟨(.type "code"), .none, (.fields #[(.str (Z "__add__") 1814), (.str (Z "Chooser.__add__") 1815), (.str (Z "/claim/cut.py") 1816), (.int 624 0), (.int 2 0), (.int 0 0), (.int 0 0), (.int 3 0), (R 1179), (.bool true), (.int 181 0), (R 1180), .none, .none, .none, (R 1181), (.int 1817 0), (.int 624 0), (.str (Z "/claim/cut.py") 1818)]), #[]⟩
def o1183z (P : Params) : Obj := ⟨(.type "function"), .none, (.func ⟨(Z "__add__"), (Z "Chooser.__add__"), dA (ic (tp 94) 8), .stmts (dB (ic (tp 94) 8)), dS (ic (tp 94) 8), 3, [], .none, .none, .none, (.str (Z "heldground.choosers") 1673), .none, (R 1182), .none, 0⟩), #[]⟩
def o1184z (P : Params) : Obj := ⟨(.type "tuple"), .none, (.seq #[] 0), #[]⟩
def o1185z (P : Params) : Obj := ⟨.none, .none, (.fields #[]), #[]⟩
def o1186z (P : Params) : Obj := ⟨(.type "tuple"), .none, (.seq #[(.str (Z "self") 1823), (.str (Z "other") 1824)] 0), #[]⟩
def o1187z (P : Params) : Obj := ⟨(.type "tuple"), .none, (.seq #[] 0), #[]⟩
def o1188z (P : Params) : Obj := ⟨.none, .none, (.func ⟨(Z "__eq__"), (Z "Chooser.__eq__"), dA (ic (tp 94) 9), .stmts (dB (ic (tp 94) 9)), dS (ic (tp 94) 9), 0, [], .none, .none, .none, .none, .none, .none, .none, 0⟩), #[]⟩
def o1189z (P : Params) : Obj := ⟨(.type "code"), .none, (.fields #[(.str (Z "__eq__") 1820), (.str (Z "Chooser.__eq__") 1821), (.str (Z "/claim/cut.py") 1822), (.int 634 0), (.int 2 0), (.int 0 0), (.int 0 0), (.int 3 0), (R 1184), (.bool true), (.int 181 0), (R 1185), .none, (R 1186), (R 1187), (R 1188), (.int 1825 0), (.int 634 0), (.str (Z "/claim/cut.py") 1826)]), #[]⟩
def o1190z (P : Params) : Obj := ⟨(.type "function"), .none, (.func ⟨(Z "__eq__"), (Z "Chooser.__eq__"), dA (ic (tp 94) 9), .stmts (dB (ic (tp 94) 9)), dS (ic (tp 94) 9), 3, [], .none, .none, .none, (.str (Z "heldground.choosers") 1673), .none, (R 1189), .none, 0⟩), #[]⟩
def o1191z (P : Params) : Obj := ⟨(.type "tuple"), .none, (.seq #[] 0), #[]⟩
def o1192z (P : Params) : Obj := ⟨.none, .none, (.fields #[]), #[]⟩
def o1193z (P : Params) : Obj := ⟨.none, .none, (.func ⟨(Z "__str__"), (Z "Chooser.__str__"), dA (ic (tp 94) 10), .stmts (dB (ic (tp 94) 10)), dS (ic (tp 94) 10), 0, [], .none, .none, .none, .none, .none, .none, .none, 0⟩), #[]⟩
def o1194z (P : Params) : Obj := ⟨(.type "code"), .none, (.fields #[(.str (Z "__str__") 1828), (.str (Z "Chooser.__str__") 1829), (.str (Z "/claim/cut.py") 1830), (.int 637 0), (.int 1 0), (.int 0 0), (.int 0 0), (.int 3 0), (R 1191), (.bool true), (.int 181 0), (R 1192), .none, .none, .none, (R 1193), (.int 1831 0), (.int 637 0), (.str (Z "/claim/cut.py") 1832)]), #[]⟩
def o1195z (P : Params) : Obj := ⟨(.type "function"), .none, (.func ⟨(Z "__str__"), (Z "Chooser.__str__"), dA (ic (tp 94) 10), .stmts (dB (ic (tp 94) 10)), dS (ic (tp 94) 10), 3, [], .none, .none, .none, (.str (Z "heldground.choosers") 1673), .none, (R 1194), .none, 0⟩), #[]⟩
def o1196z (P : Params) : Obj := ⟨(.type "tuple"), .none, (.seq #[] 0), #[]⟩
def o1197z (P : Params) : Obj := ⟨.none, .none, (.fields #[]), #[]⟩
def o1198z (P : Params) : Obj := ⟨(.type "tuple"), .none, (.seq #[(.str (Z "self") 1837), (.str (Z "house") 1838), (.str (Z "turns") 1839)] 0), #[]⟩
def o1199z (P : Params) : Obj := ⟨(.type "tuple"), .none, (.seq #[] 0), #[]⟩
def o1200z (P : Params) : Obj := ⟨.none, .none, (.func ⟨(Z "__call__"), (Z "Chooser.__call__"), dA (ic (tp 94) 11), .stmts (dB (ic (tp 94) 11)), dS (ic (tp 94) 11), 0, [], .none, .none, .none, .none, .none, .none, .none, 0⟩), #[]⟩
def o1201z (P : Params) : Obj := ⟨(.type "code"), .none, (.fields #[(.str (Z "__call__") 1834), (.str (Z "Chooser.__call__") 1835), (.str (Z "/claim/cut.py") 1836), (.int 641 0), (.int 3 0), (.int 0 0), (.int 0 0), (.int 3 0), (R 1196), (.bool true), (.int 181 0), (R 1197), .none, (R 1198), (R 1199), (R 1200), (.int 1840 0), (.int 641 0), (.str (Z "/claim/cut.py") 1841)]), #[]⟩
def o1202z (P : Params) : Obj := ⟨(.type "function"), .none, (.func ⟨(Z "__call__"), (Z "Chooser.__call__"), dA (ic (tp 94) 11), .stmts (dB (ic (tp 94) 11)), dS (ic (tp 94) 11), 3, [], .none, .none, .none, (.str (Z "heldground.choosers") 1673), .none, (R 1201), .none, 0⟩), #[]⟩
def o1203z (P : Params) : Obj := ⟨(.type "tuple"), .none, (.seq #[(.str (Z "loose") 1843), (.str (Z "needs") 1844), (.str (Z "notes") 1845), (.str (Z "numbered") 1846), (.str (Z "rows") 1847)] 0), #[]⟩
def o1204z (P : Params) : Obj := ⟨(.type "dict"), .none, (.dict #[⟨PyData.keyHash P (Z "__module__"), (.str (Z "__module__") 1734), (.str (Z "heldground.choosers") 1673)⟩, ⟨PyData.keyHash P (Z "__firstlineno__"), (.str (Z "__firstlineno__") 1738), (.int 584 1737)⟩, ⟨PyData.keyHash P (Z "__init__"), (.str (Z "__init__") 1744), (R 1126)⟩, ⟨PyData.keyHash P (Z "read"), (.str (Z "read") 1766), (R 1135)⟩, ⟨PyData.keyHash P (Z "need"), (.str (Z "need") 1774), (R 1143)⟩, ⟨PyData.keyHash P (Z "without"), (.str (Z "without") 1783), (R 1150)⟩, ⟨PyData.keyHash P (Z "with_guards"), (.str (Z "with_guards") 1791), (R 1157)⟩, ⟨PyData.keyHash P (Z "__len__"), (.str (Z "__len__") 1798), (R 1164)⟩, ⟨PyData.keyHash P (Z "__getitem__"), (.str (Z "__getitem__") 1806), (R 1171)⟩, ⟨PyData.keyHash P (Z "__iter__"), (.str (Z "__iter__") 1813), (R 1178)⟩, ⟨PyData.keyHash P (Z "__add__"), (.str (Z "__add__") 1819), (R 1183)⟩, ⟨PyData.keyHash P (Z "__eq__"), (.str (Z "__eq__") 1827), (R 1190)⟩, ⟨PyData.keyHash P (Z "__str__"), (.str (Z "__str__") 1833), (R 1195)⟩, ⟨PyData.keyHash P (Z "__call__"), (.str (Z "__call__") 1842), (R 1202)⟩, ⟨PyData.keyHash P (Z "__static_attributes__"), (.str (Z "__static_attributes__") 1848), (R 1203)⟩, ⟨PyData.keyHash P (Z "__dict__"), (.str (Z "__dict__") 1850), (R 1206)⟩, ⟨PyData.keyHash P (Z "__weakref__"), (.str (Z "__weakref__") 1852), (R 1207)⟩, ⟨PyData.keyHash P (Z "__doc__"), (.str (Z "__doc__") 1853), .none⟩, ⟨PyData.keyHash P (Z "__hash__"), (.str (Z "__hash__") 1854), .none⟩] 5), #[]⟩
def o1205z (P : Params) : Obj := ⟨(.type "type"), .none, (.cls ⟨(Z "Chooser"), [(.type "object")], [(R 1205), (.type "object")], 1204, (Z "Chooser"), true, [], [], false, .none, false⟩), #[.none, .none, (.some (.str (Z "Chooser") 1727)), (.some (.str (Z "Chooser") 1735)), (.some (.builtin "object.__new__")), (.some (.bool true))]⟩
def o1206z (P : Params) : Obj := ⟨(.type "getset_descriptor"), .none, (.fields #[(.str (Z "__dict__") 1849), (R 1205), (.builtin "function.__dict__"), (.builtin "function.__dict__#set")]), #[]⟩
def o1207z (P : Params) : Obj := ⟨(.type "getset_descriptor"), .none, (.fields #[(.str (Z "__weakref__") 1851), (R 1205), (.builtin "ExceptionGroup.__weakref__"), .none]), #[]⟩
def o1208z (P : Params) : Obj := ⟨(.type "super"), .none, (.fields #[(R 1205), (R 1205), (R 1205)]), #[]⟩
def o1209z (P : Params) : Obj := ⟨(.type "builtin_function_or_method"), .none, (.fields #[(.builtin "object.__init_subclass__"), (R 1205)]), #[]⟩
def o1210z (P : Params) : Obj := ⟨(.type "tuple"), .none, (.seq #[] 0), #[]⟩
def o1211z (P : Params) : Obj := ⟨(.type "builtin_function_or_method"), .none, (.fields #[(.builtin "type.__prepare__"), (.type "type")]), #[]⟩
def o1212z (P : Params) : Obj := ⟨(.type "dict"), .none, (.dict #[⟨PyData.keyHash P (Z "__module__"), (.str (Z "__module__") 1874), (.str (Z "heldground.houses") 1857)⟩, ⟨PyData.keyHash P (Z "__qualname__"), (.str (Z "__qualname__") 1876), (.str (Z "House") 1875)⟩, ⟨PyData.keyHash P (Z "__firstlineno__"), (.str (Z "__firstlineno__") 1878), (.int 648 1877)⟩, ⟨PyData.keyHash P (Z "__init__"), (.str (Z "__init__") 1891), (R 1224)⟩, ⟨PyData.keyHash P (Z "but"), (.str (Z "but") 1899), (R 1231)⟩, ⟨PyData.keyHash P (Z "is_lost"), (.str (Z "is_lost") 1907), (R 1238)⟩, ⟨PyData.keyHash P (Z "fates_behind"), (.str (Z "fates_behind") 1916), (R 1245)⟩, ⟨PyData.keyHash P (Z "__eq__"), (.str (Z "__eq__") 1925), (R 1252)⟩, ⟨PyData.keyHash P (Z "__static_attributes__"), (.str (Z "__static_attributes__") 1930), (R 1253)⟩] 9), #[]⟩
def o1213z (P : Params) : Obj := ⟨(.type "tuple"), .none, (.seq #[] 0), #[]⟩
def o1214z (P : Params) : Obj := ⟨.none, .none, (.fields #[(.int 650 0), (.int 4 0), (R 1223), (.int 664 0), (.int 4 0), (R 1230), (.int 667 0), (.int 4 0), (R 1237), (.int 670 0), (.int 4 0), (R 1244), (.int 675 0), (.int 4 0), (R 1251)]), #[]⟩
def o1215z (P : Params) : Obj := ⟨(.type "code"), .none, (.fields #[(.str (Z "House") 1869), (.str (Z "House") 1870), (.str (Z "/claim/cut.py") 1871), (.int 648 0), (.int 0 0), (.int 0 0), (.int 0 0), (.int 0 0), (R 1213), (.bool false), (.int 181 0), (R 1214), .none, .none, .none, .none, (.int 1872 0), (.int 648 0), (.str (Z "/claim/cut.py") 1873)]), #[]⟩
def o1216z (P : Params) : Obj := ⟨(.type "frame"), .none, .plain, #[(.some (R 1215)), (.some (R 3)), (.some (R 1212)), .none, (.some (.str (Z "heldground.houses") 1857)), .none, (.some (R 0))]⟩
def o1217z (P : Params) : Obj := ⟨(.type "tuple"), .none, (.seq #[(.int 1 1879), .none, (.int 1 1880)] 0), #[]⟩
def o1218z (P : Params) : Obj := ⟨(.type "tuple"), .none, (.seq #[] 0), #[]⟩
def o1219z (P : Params) : Obj := ⟨.none, .none, (.fields #[]), #[]⟩
def o1220z (P : Params) : Obj := ⟨(.type "tuple"), .none, (.seq #[(.str (Z "self") 1884), (.str (Z "slots") 1885), (.str (Z "lateness") 1886), (.str (Z "losses") 1887), (.str (Z "window") 1888)] 0), #[]⟩
def o1221z (P : Params) : Obj := ⟨(.type "tuple"), .none, (.seq #[] 0), #[]⟩
def o1222z (P : Params) : Obj := ⟨.none, .none, (.func ⟨(Z "__init__"), (Z "House.__init__"), dA (ic (tp 100) 0), .stmts (dB (ic (tp 100) 0)), dS (ic (tp 100) 0), 0, [], .none, .none, .none, .none, .none, .none, .none, 0⟩), #[]⟩
def o1223z (P : Params) : Obj := ⟨(.type "code"), .none, (.fields #[(.str (Z "__init__") 1881), (.str (Z "House.__init__") 1882), (.str (Z "/claim/cut.py") 1883), (.int 650 0), (.int 5 0), (.int 0 0), (.int 0 0), (.int 3 0), (R 1218), (.bool true), (.int 181 0), (R 1219), .none, (R 1220), (R 1221), (R 1222), (.int 1889 0), (.int 650 0), (.str (Z "/claim/cut.py") 1890)]), #[]⟩
def o1224z (P : Params) : Obj := ⟨(.type "function"), .none, (.func ⟨(Z "__init__"), (Z "House.__init__"), dA (ic (tp 100) 0), .stmts (dB (ic (tp 100) 0)), dS (ic (tp 100) 0), 3, [], (R 1217), .none, .none, (.str (Z "heldground.houses") 1857), .none, (R 1223), .none, 0⟩), #[]⟩
def o1225z (P : Params) : Obj := ⟨(.type "tuple"), .none, (.seq #[] 0), #[]⟩
def o1226z (P : Params) : Obj := ⟨.none, .none, (.fields #[]), #[]⟩
def o1227z (P : Params) : Obj := ⟨(.type "tuple"), .none, (.seq #[(.str (Z "self") 1895), (.str (Z "others") 1896)] 0), #[]⟩
def o1228z (P : Params) : Obj := ⟨(.type "tuple"), .none, (.seq #[] 0), #[]⟩
def o1229z (P : Params) : Obj := ⟨.none, .none, (.func ⟨(Z "but"), (Z "House.but"), dA (ic (tp 100) 1), .stmts (dB (ic (tp 100) 1)), dS (ic (tp 100) 1), 0, [], .none, .none, .none, .none, .none, .none, .none, 0⟩), #[]⟩
def o1230z (P : Params) : Obj := ⟨(.type "code"), .none, (.fields #[(.str (Z "but") 1892), (.str (Z "House.but") 1893), (.str (Z "/claim/cut.py") 1894), (.int 664 0), (.int 1 0), (.int 0 0), (.int 0 0), (.int 11 0), (R 1225), (.bool true), (.int 181 0), (R 1226), .none, (R 1227), (R 1228), (R 1229), (.int 1897 0), (.int 664 0), (.str (Z "/claim/cut.py") 1898)]), #[]⟩
def o1231z (P : Params) : Obj := ⟨(.type "function"), .none, (.func ⟨(Z "but"), (Z "House.but"), dA (ic (tp 100) 1), .stmts (dB (ic (tp 100) 1)), dS (ic (tp 100) 1), 3, [], .none, .none, .none, (.str (Z "heldground.houses") 1857), .none, (R 1230), .none, 0⟩), #[]⟩
def o1232z (P : Params) : Obj := ⟨(.type "tuple"), .none, (.seq #[] 0), #[]⟩
def o1233z (P : Params) : Obj := ⟨.none, .none, (.fields #[]), #[]⟩
def o1234z (P : Params) : Obj := ⟨(.type "tuple"), .none, (.seq #[(.str (Z "self") 1903), (.str (Z "fates") 1904)] 0), #[]⟩
def o1235z (P : Params) : Obj := ⟨(.type "tuple"), .none, (.seq #[] 0), #[]⟩
def o1236z (P : Params) : Obj := ⟨.none, .none, (.func ⟨(Z "is_lost"), (Z "House.is_lost"), dA (ic (tp 100) 2), .stmts (dB (ic (tp 100) 2)), dS (ic (tp 100) 2), 0, [], .none, .none, .none, .none, .none, .none, .none, 0⟩), #[]⟩
def o1237z (P : Params) : Obj := ⟨(.type "code"), .none, (.fields #[(.str (Z "is_lost") 1900), (.str (Z "House.is_lost") 1901), (.str (Z "/claim/cut.py") 1902), (.int 667 0), (.int 2 0), (.int 0 0), (.int 0 0), (.int 3 0), (R 1232), (.bool true), (.int 181 0), (R 1233), .none, (R 1234), (R 1235), (R 1236), (.int 1905 0), (.int 667 0), (.str (Z "/claim/cut.py") 1906)]), #[]⟩
def o1238z (P : Params) : Obj := ⟨(.type "function"), .none, (.func ⟨(Z "is_lost"), (Z "House.is_lost"), dA (ic (tp 100) 2), .stmts (dB (ic (tp 100) 2)), dS (ic (tp 100) 2), 3, [], .none, .none, .none, (.str (Z "heldground.houses") 1857), .none, (R 1237), .none, 0⟩), #[]⟩
def o1239z (P : Params) : Obj := ⟨(.type "tuple"), .none, (.seq #[] 0), #[]⟩
def o1240z (P : Params) : Obj := ⟨.none, .none, (.fields #[]), #[]⟩
def o1241z (P : Params) : Obj := ⟨(.type "tuple"), .none, (.seq #[(.str (Z "self") 1911), (.str (Z "fates") 1912), (.str (Z "comes") 1913)] 0), #[]⟩
def o1242z (P : Params) : Obj := ⟨(.type "tuple"), .none, (.seq #[] 0), #[]⟩
def o1243z (P : Params) : Obj := ⟨.none, .none, (.func ⟨(Z "fates_behind"), (Z "House.fates_behind"), dA (ic (tp 100) 3), .stmts (dB (ic (tp 100) 3)), dS (ic (tp 100) 3), 0, [], .none, .none, .none, .none, .none, .none, .none, 0⟩), #[]⟩
def o1244z (P : Params) : Obj := ⟨(.type "code"), .none, (.fields #[(.str (Z "fates_behind") 1908), (.str (Z "House.fates_behind") 1909), (.str (Z "/claim/cut.py") 1910), (.int 670 0), (.int 3 0), (.int 0 0), (.int 0 0), (.int 3 0), (R 1239), (.bool true), (.int 181 0), (R 1240), .none, (R 1241), (R 1242), (R 1243), (.int 1914 0), (.int 670 0), (.str (Z "/claim/cut.py") 1915)]), #[]⟩
def o1245z (P : Params) : Obj := ⟨(.type "function"), .none, (.func ⟨(Z "fates_behind"), (Z "House.fates_behind"), dA (ic (tp 100) 3), .stmts (dB (ic (tp 100) 3)), dS (ic (tp 100) 3), 3, [], .none, .none, .none, (.str (Z "heldground.houses") 1857), .none, (R 1244), .none, 0⟩), #[]⟩
def o1246z (P : Params) : Obj := ⟨(.type "tuple"), .none, (.seq #[] 0), #[]⟩
def o1247z (P : Params) : Obj := ⟨.none, .none, (.fields #[]), #[]⟩
def o1248z (P : Params) : Obj := ⟨(.type "tuple"), .none, (.seq #[(.str (Z "self") 1920), (.str (Z "other") 1921), (.str (Z "one") 1922)] 0), #[]⟩
def o1249z (P : Params) : Obj := ⟨(.type "tuple"), .none, (.seq #[] 0), #[]⟩
def o1250z (P : Params) : Obj := ⟨.none, .none, (.func ⟨(Z "__eq__"), (Z "House.__eq__"), dA (ic (tp 100) 4), .stmts (dB (ic (tp 100) 4)), dS (ic (tp 100) 4), 0, [], .none, .none, .none, .none, .none, .none, .none, 0⟩), #[]⟩
def o1251z (P : Params) : Obj := ⟨(.type "code"), .none, (.fields #[(.str (Z "__eq__") 1917), (.str (Z "House.__eq__") 1918), (.str (Z "/claim/cut.py") 1919), (.int 675 0), (.int 2 0), (.int 0 0), (.int 0 0), (.int 3 0), (R 1246), (.bool true), (.int 181 0), (R 1247), .none, (R 1248), (R 1249), (R 1250), (.int 1923 0), (.int 675 0), (.str (Z "/claim/cut.py") 1924)]), #[]⟩
def o1252z (P : Params) : Obj := ⟨(.type "function"), .none, (.func ⟨(Z "__eq__"), (Z "House.__eq__"), dA (ic (tp 100) 4), .stmts (dB (ic (tp 100) 4)), dS (ic (tp 100) 4), 3, [], .none, .none, .none, (.str (Z "heldground.houses") 1857), .none, (R 1251), .none, 0⟩), #[]⟩
def o1253z (P : Params) : Obj := ⟨(.type "tuple"), .none, (.seq #[(.str (Z "lateness") 1926), (.str (Z "losses") 1927), (.str (Z "slots") 1928), (.str (Z "window") 1929)] 0), #[]⟩
def o1254z (P : Params) : Obj := ⟨(.type "dict"), .none, (.dict #[⟨PyData.keyHash P (Z "__module__"), (.str (Z "__module__") 1874), (.str (Z "heldground.houses") 1857)⟩, ⟨PyData.keyHash P (Z "__firstlineno__"), (.str (Z "__firstlineno__") 1878), (.int 648 1877)⟩, ⟨PyData.keyHash P (Z "__init__"), (.str (Z "__init__") 1891), (R 1224)⟩, ⟨PyData.keyHash P (Z "but"), (.str (Z "but") 1899), (R 1231)⟩, ⟨PyData.keyHash P (Z "is_lost"), (.str (Z "is_lost") 1907), (R 1238)⟩, ⟨PyData.keyHash P (Z "fates_behind"), (.str (Z "fates_behind") 1916), (R 1245)⟩, ⟨PyData.keyHash P (Z "__eq__"), (.str (Z "__eq__") 1925), (R 1252)⟩, ⟨PyData.keyHash P (Z "__static_attributes__"), (.str (Z "__static_attributes__") 1930), (R 1253)⟩, ⟨PyData.keyHash P (Z "__dict__"), (.str (Z "__dict__") 1932), (R 1256)⟩, ⟨PyData.keyHash P (Z "__weakref__"), (.str (Z "__weakref__") 1934), (R 1257)⟩, ⟨PyData.keyHash P (Z "__doc__"), (.str (Z "__doc__") 1935), .none⟩, ⟨PyData.keyHash P (Z "__hash__"), (.str (Z "__hash__") 1936), .none⟩] 5), #[]⟩
def o1255z (P : Params) : Obj := ⟨(.type "type"), .none, (.cls ⟨(Z "House"), [(.type "object")], [(R 1255), (.type "object")], 1254, (Z "House"), true, [], [], false, .none, false⟩), #[.none, .none, (.some (.str (Z "House") 1867)), (.some (.str (Z "House") 1875)), (.some (.builtin "object.__new__")), (.some (.bool true))]⟩
def o1256z (P : Params) : Obj := ⟨(.type "getset_descriptor"), .none, (.fields #[(.str (Z "__dict__") 1931), (R 1255), (.builtin "function.__dict__"), (.builtin "function.__dict__#set")]), #[]⟩
def o1257z (P : Params) : Obj := ⟨(.type "getset_descriptor"), .none, (.fields #[(.str (Z "__weakref__") 1933), (R 1255), (.builtin "ExceptionGroup.__weakref__"), .none]), #[]⟩
def o1258z (P : Params) : Obj := ⟨(.type "super"), .none, (.fields #[(R 1255), (R 1255), (R 1255)]), #[]⟩
def o1259z (P : Params) : Obj := ⟨(.type "builtin_function_or_method"), .none, (.fields #[(.builtin "object.__init_subclass__"), (R 1255)]), #[]⟩
def o1260z (P : Params) : Obj := ⟨(.type "tuple"), .none, (.seq #[] 0), #[]⟩
def o1261z (P : Params) : Obj := ⟨.none, .none, (.fields #[]), #[]⟩
def o1262z (P : Params) : Obj := ⟨(.type "tuple"), .none, (.seq #[(.str (Z "_law_script") 1944), (.str (Z "_law_k") 1945), (.str (Z "_law_own") 1946), (.str (Z "_law_cell") 1947), (.str (Z "_law_seed") 1948)] 0), #[]⟩
def o1263z (P : Params) : Obj := ⟨(.type "tuple"), .none, (.seq #[] 0), #[]⟩
def o1264z (P : Params) : Obj := ⟨.none, .none, (.func ⟨(Z "_law_box"), (Z "_law_box"), dA (tp 102), .stmts (dB (tp 102)), dS (tp 102), 0, [], .none, .none, .none, .none, .none, .none, .none, 0⟩), #[]⟩
def o1265z (P : Params) : Obj := ⟨(.type "code"), .none, (.fields #[(.str (Z "_law_box") 1941), (.str (Z "_law_box") 1942), (.str (Z "/claim/cut.py") 1943), (.int 681 0), (.int 3 0), (.int 0 0), (.int 0 0), (.int 3 0), (R 1260), (.bool true), (.int 181 0), (R 1261), .none, (R 1262), (R 1263), (R 1264), (.int 1949 0), (.int 681 0), (.str (Z "/claim/cut.py") 1950)]), #[]⟩
def o1266z (P : Params) : Obj := ⟨(.type "function"), .none, (.func ⟨(Z "_law_box"), (Z "_law_box"), dA (tp 102), .stmts (dB (tp 102)), dS (tp 102), 3, [], .none, .none, .none, (.str (Z "law_heldground_k23_histories_compared") 1939), .none, (R 1265), .none, 0⟩), #[]⟩
def o1267z (P : Params) : Obj := ⟨(.type "tuple"), .none, (.seq #[] 0), #[]⟩
def o1268z (P : Params) : Obj := ⟨.none, .none, (.fields #[]), #[]⟩
def o1269z (P : Params) : Obj := ⟨(.type "tuple"), .none, (.seq #[(.str (Z "_law_box_here") 1955), (.str (Z "_law_many") 1956), (.str (Z "_law_digit") 1957), (.str (Z "_law_raw") 1958), (.str (Z "_law_wide") 1959)] 0), #[]⟩
def o1270z (P : Params) : Obj := ⟨(.type "tuple"), .none, (.seq #[] 0), #[]⟩
def o1271z (P : Params) : Obj := ⟨.none, .none, (.func ⟨(Z "_law_take"), (Z "_law_take"), dA (tp 103), .stmts (dB (tp 103)), dS (tp 103), 0, [], .none, .none, .none, .none, .none, .none, .none, 0⟩), #[]⟩
def o1272z (P : Params) : Obj := ⟨(.type "code"), .none, (.fields #[(.str (Z "_law_take") 1952), (.str (Z "_law_take") 1953), (.str (Z "/claim/cut.py") 1954), (.int 689 0), (.int 2 0), (.int 0 0), (.int 0 0), (.int 3 0), (R 1267), (.bool true), (.int 181 0), (R 1268), .none, (R 1269), (R 1270), (R 1271), (.int 1960 0), (.int 689 0), (.str (Z "/claim/cut.py") 1961)]), #[]⟩
def o1273z (P : Params) : Obj := ⟨(.type "function"), .none, (.func ⟨(Z "_law_take"), (Z "_law_take"), dA (tp 103), .stmts (dB (tp 103)), dS (tp 103), 3, [], .none, .none, .none, (.str (Z "law_heldground_k23_histories_compared") 1939), .none, (R 1272), .none, 0⟩), #[]⟩
def o1274z (P : Params) : Obj := ⟨(.type "tuple"), .none, (.seq #[] 0), #[]⟩
def o1275z (P : Params) : Obj := ⟨.none, .none, (.fields #[]), #[]⟩
def o1276z (P : Params) : Obj := ⟨(.type "tuple"), .none, (.seq #[(.str (Z "_law_box_here") 1966), (.str (Z "_law_items") 1967)] 0), #[]⟩
def o1277z (P : Params) : Obj := ⟨(.type "tuple"), .none, (.seq #[] 0), #[]⟩
def o1278z (P : Params) : Obj := ⟨.none, .none, (.func ⟨(Z "_law_pick"), (Z "_law_pick"), dA (tp 104), .stmts (dB (tp 104)), dS (tp 104), 0, [], .none, .none, .none, .none, .none, .none, .none, 0⟩), #[]⟩
def o1279z (P : Params) : Obj := ⟨(.type "code"), .none, (.fields #[(.str (Z "_law_pick") 1963), (.str (Z "_law_pick") 1964), (.str (Z "/claim/cut.py") 1965), (.int 701 0), (.int 2 0), (.int 0 0), (.int 0 0), (.int 3 0), (R 1274), (.bool true), (.int 181 0), (R 1275), .none, (R 1276), (R 1277), (R 1278), (.int 1968 0), (.int 701 0), (.str (Z "/claim/cut.py") 1969)]), #[]⟩
def o1280z (P : Params) : Obj := ⟨(.type "function"), .none, (.func ⟨(Z "_law_pick"), (Z "_law_pick"), dA (tp 104), .stmts (dB (tp 104)), dS (tp 104), 3, [], .none, .none, .none, (.str (Z "law_heldground_k23_histories_compared") 1939), .none, (R 1279), .none, 0⟩), #[]⟩
def o1281z (P : Params) : Obj := ⟨(.type "tuple"), .none, (.seq #[] 0), #[]⟩
def o1282z (P : Params) : Obj := ⟨.none, .none, (.fields #[]), #[]⟩
def o1283z (P : Params) : Obj := ⟨(.type "tuple"), .none, (.seq #[(.str (Z "_law_box_here") 1974), (.str (Z "_law_items") 1975), (.str (Z "_law_left") 1976), (.str (Z "_law_found") 1977), (.str (Z "_law_turn") 1978)] 0), #[]⟩
def o1284z (P : Params) : Obj := ⟨(.type "tuple"), .none, (.seq #[] 0), #[]⟩
def o1285z (P : Params) : Obj := ⟨.none, .none, (.func ⟨(Z "_law_mixed"), (Z "_law_mixed"), dA (tp 105), .stmts (dB (tp 105)), dS (tp 105), 0, [], .none, .none, .none, .none, .none, .none, .none, 0⟩), #[]⟩
def o1286z (P : Params) : Obj := ⟨(.type "code"), .none, (.fields #[(.str (Z "_law_mixed") 1971), (.str (Z "_law_mixed") 1972), (.str (Z "/claim/cut.py") 1973), (.int 703 0), (.int 2 0), (.int 0 0), (.int 0 0), (.int 3 0), (R 1281), (.bool true), (.int 181 0), (R 1282), .none, (R 1283), (R 1284), (R 1285), (.int 1979 0), (.int 703 0), (.str (Z "/claim/cut.py") 1980)]), #[]⟩
def o1287z (P : Params) : Obj := ⟨(.type "function"), .none, (.func ⟨(Z "_law_mixed"), (Z "_law_mixed"), dA (tp 105), .stmts (dB (tp 105)), dS (tp 105), 3, [], .none, .none, .none, (.str (Z "law_heldground_k23_histories_compared") 1939), .none, (R 1286), .none, 0⟩), #[]⟩
def o1288z (P : Params) : Obj := ⟨(.type "tuple"), .none, (.seq #[] 0), #[]⟩
def o1289z (P : Params) : Obj := ⟨.none, .none, (.fields #[]), #[]⟩
def o1290z (P : Params) : Obj := ⟨.none, .none, (.func ⟨(Z "_law_names"), (Z "_law_names"), dA (tp 106), .stmts (dB (tp 106)), dS (tp 106), 0, [], .none, .none, .none, .none, .none, .none, .none, 0⟩), #[]⟩
def o1291z (P : Params) : Obj := ⟨(.type "code"), .none, (.fields #[(.str (Z "_law_names") 1982), (.str (Z "_law_names") 1983), (.str (Z "/claim/cut.py") 1984), (.int 708 0), (.int 2 0), (.int 0 0), (.int 0 0), (.int 3 0), (R 1288), (.bool true), (.int 181 0), (R 1289), .none, .none, .none, (R 1290), (.int 1985 0), (.int 708 0), (.str (Z "/claim/cut.py") 1986)]), #[]⟩
def o1292z (P : Params) : Obj := ⟨(.type "function"), .none, (.func ⟨(Z "_law_names"), (Z "_law_names"), dA (tp 106), .stmts (dB (tp 106)), dS (tp 106), 3, [], .none, .none, .none, (.str (Z "law_heldground_k23_histories_compared") 1939), .none, (R 1291), .none, 0⟩), #[]⟩
def o1293z (P : Params) : Obj := ⟨(.type "tuple"), .none, (.seq #[] 0), #[]⟩
def o1294z (P : Params) : Obj := ⟨.none, .none, (.fields #[]), #[]⟩
def o1295z (P : Params) : Obj := ⟨(.type "tuple"), .none, (.seq #[(.str (Z "_law_box_here") 1991), (.str (Z "_law_slots") 1992)] 0), #[]⟩
def o1296z (P : Params) : Obj := ⟨(.type "tuple"), .none, (.seq #[] 0), #[]⟩
def o1297z (P : Params) : Obj := ⟨.none, .none, (.func ⟨(Z "_law_world"), (Z "_law_world"), dA (tp 107), .stmts (dB (tp 107)), dS (tp 107), 0, [], .none, .none, .none, .none, .none, .none, .none, 0⟩), #[]⟩
def o1298z (P : Params) : Obj := ⟨(.type "code"), .none, (.fields #[(.str (Z "_law_world") 1988), (.str (Z "_law_world") 1989), (.str (Z "/claim/cut.py") 1990), (.int 719 0), (.int 2 0), (.int 0 0), (.int 0 0), (.int 3 0), (R 1293), (.bool true), (.int 181 0), (R 1294), .none, (R 1295), (R 1296), (R 1297), (.int 1993 0), (.int 719 0), (.str (Z "/claim/cut.py") 1994)]), #[]⟩
def o1299z (P : Params) : Obj := ⟨(.type "function"), .none, (.func ⟨(Z "_law_world"), (Z "_law_world"), dA (tp 107), .stmts (dB (tp 107)), dS (tp 107), 3, [], .none, .none, .none, (.str (Z "law_heldground_k23_histories_compared") 1939), .none, (R 1298), .none, 0⟩), #[]⟩
def o1300z (P : Params) : Obj := ⟨(.type "tuple"), .none, (.seq #[] 0), #[]⟩
def o1301z (P : Params) : Obj := ⟨.none, .none, (.fields #[]), #[]⟩
def o1302z (P : Params) : Obj := ⟨(.type "tuple"), .none, (.seq #[(.str (Z "_law_box_here") 1999), (.str (Z "_law_form") 2000)] 0), #[]⟩
def o1303z (P : Params) : Obj := ⟨(.type "tuple"), .none, (.seq #[] 0), #[]⟩
def o1304z (P : Params) : Obj := ⟨.none, .none, (.func ⟨(Z "_law_number"), (Z "_law_number"), dA (tp 108), .stmts (dB (tp 108)), dS (tp 108), 0, [], .none, .none, .none, .none, .none, .none, .none, 0⟩), #[]⟩
def o1305z (P : Params) : Obj := ⟨(.type "code"), .none, (.fields #[(.str (Z "_law_number") 1996), (.str (Z "_law_number") 1997), (.str (Z "/claim/cut.py") 1998), (.int 723 0), (.int 1 0), (.int 0 0), (.int 0 0), (.int 3 0), (R 1300), (.bool true), (.int 181 0), (R 1301), .none, (R 1302), (R 1303), (R 1304), (.int 2001 0), (.int 723 0), (.str (Z "/claim/cut.py") 2002)]), #[]⟩
def o1306z (P : Params) : Obj := ⟨(.type "function"), .none, (.func ⟨(Z "_law_number"), (Z "_law_number"), dA (tp 108), .stmts (dB (tp 108)), dS (tp 108), 3, [], .none, .none, .none, (.str (Z "law_heldground_k23_histories_compared") 1939), .none, (R 1305), .none, 0⟩), #[]⟩
def o1307z (P : Params) : Obj := ⟨(.type "tuple"), .none, (.seq #[] 0), #[]⟩
def o1308z (P : Params) : Obj := ⟨.none, .none, (.fields #[]), #[]⟩
def o1309z (P : Params) : Obj := ⟨(.type "tuple"), .none, (.seq #[(.str (Z "_law_box_here") 2007), (.str (Z "_law_world_here") 2008), (.str (Z "_law_form") 2009), (.str (Z "_law_found") 2010), (.str (Z "_law_turn") 2011)] 0), #[]⟩
def o1310z (P : Params) : Obj := ⟨(.type "tuple"), .none, (.seq #[] 0), #[]⟩
def o1311z (P : Params) : Obj := ⟨.none, .none, (.func ⟨(Z "_law_any_test"), (Z "_law_any_test"), dA (tp 109), .stmts (dB (tp 109)), dS (tp 109), 0, [], .none, .none, .none, .none, .none, .none, .none, 0⟩), #[]⟩
def o1312z (P : Params) : Obj := ⟨(.type "code"), .none, (.fields #[(.str (Z "_law_any_test") 2004), (.str (Z "_law_any_test") 2005), (.str (Z "/claim/cut.py") 2006), (.int 728 0), (.int 2 0), (.int 0 0), (.int 0 0), (.int 3 0), (R 1307), (.bool true), (.int 181 0), (R 1308), .none, (R 1309), (R 1310), (R 1311), (.int 2012 0), (.int 728 0), (.str (Z "/claim/cut.py") 2013)]), #[]⟩
def o1313z (P : Params) : Obj := ⟨(.type "function"), .none, (.func ⟨(Z "_law_any_test"), (Z "_law_any_test"), dA (tp 109), .stmts (dB (tp 109)), dS (tp 109), 3, [], .none, .none, .none, (.str (Z "law_heldground_k23_histories_compared") 1939), .none, (R 1312), .none, 0⟩), #[]⟩
def o1314z (P : Params) : Obj := ⟨(.type "tuple"), .none, (.seq #[] 0), #[]⟩
def o1315z (P : Params) : Obj := ⟨.none, .none, (.fields #[]), #[]⟩
def o1316z (P : Params) : Obj := ⟨(.type "tuple"), .none, (.seq #[(.str (Z "_law_box_here") 2018), (.str (Z "_law_world_here") 2019), (.str (Z "_law_left") 2020), (.str (Z "_law_deep") 2021), (.str (Z "_law_form") 2022), (.str (Z "_law_test") 2023), (.str (Z "_law_rows") 2024)] 0), #[]⟩
def o1317z (P : Params) : Obj := ⟨(.type "tuple"), .none, (.seq #[] 0), #[]⟩
def o1318z (P : Params) : Obj := ⟨.none, .none, (.func ⟨(Z "_law_any_row"), (Z "_law_any_row"), dA (tp 110), .stmts (dB (tp 110)), dS (tp 110), 0, [], .none, .none, .none, .none, .none, .none, .none, 0⟩), #[]⟩
def o1319z (P : Params) : Obj := ⟨(.type "code"), .none, (.fields #[(.str (Z "_law_any_row") 2015), (.str (Z "_law_any_row") 2016), (.str (Z "/claim/cut.py") 2017), (.int 738 0), (.int 4 0), (.int 0 0), (.int 0 0), (.int 3 0), (R 1314), (.bool true), (.int 181 0), (R 1315), .none, (R 1316), (R 1317), (R 1318), (.int 2025 0), (.int 738 0), (.str (Z "/claim/cut.py") 2026)]), #[]⟩
def o1320z (P : Params) : Obj := ⟨(.type "function"), .none, (.func ⟨(Z "_law_any_row"), (Z "_law_any_row"), dA (tp 110), .stmts (dB (tp 110)), dS (tp 110), 3, [], .none, .none, .none, (.str (Z "law_heldground_k23_histories_compared") 1939), .none, (R 1319), .none, 0⟩), #[]⟩
def o1321z (P : Params) : Obj := ⟨(.type "tuple"), .none, (.seq #[] 0), #[]⟩
def o1322z (P : Params) : Obj := ⟨.none, .none, (.fields #[]), #[]⟩
def o1323z (P : Params) : Obj := ⟨(.type "tuple"), .none, (.seq #[(.str (Z "_law_box_here") 2031), (.str (Z "_law_world_here") 2032), (.str (Z "_law_left") 2033), (.str (Z "_law_deep") 2034), (.str (Z "_law_found") 2035), (.str (Z "_law_turn") 2036)] 0), #[]⟩
def o1324z (P : Params) : Obj := ⟨(.type "tuple"), .none, (.seq #[] 0), #[]⟩
def o1325z (P : Params) : Obj := ⟨.none, .none, (.func ⟨(Z "_law_any_rows"), (Z "_law_any_rows"), dA (tp 111), .stmts (dB (tp 111)), dS (tp 111), 0, [], .none, .none, .none, .none, .none, .none, .none, 0⟩), #[]⟩
def o1326z (P : Params) : Obj := ⟨(.type "code"), .none, (.fields #[(.str (Z "_law_any_rows") 2028), (.str (Z "_law_any_rows") 2029), (.str (Z "/claim/cut.py") 2030), (.int 750 0), (.int 4 0), (.int 0 0), (.int 0 0), (.int 3 0), (R 1321), (.bool true), (.int 181 0), (R 1322), .none, (R 1323), (R 1324), (R 1325), (.int 2037 0), (.int 750 0), (.str (Z "/claim/cut.py") 2038)]), #[]⟩
def o1327z (P : Params) : Obj := ⟨(.type "function"), .none, (.func ⟨(Z "_law_any_rows"), (Z "_law_any_rows"), dA (tp 111), .stmts (dB (tp 111)), dS (tp 111), 3, [], .none, .none, .none, (.str (Z "law_heldground_k23_histories_compared") 1939), .none, (R 1326), .none, 0⟩), #[]⟩
def o1328z (P : Params) : Obj := ⟨(.type "tuple"), .none, (.seq #[] 0), #[]⟩
def o1329z (P : Params) : Obj := ⟨.none, .none, (.fields #[]), #[]⟩
def o1330z (P : Params) : Obj := ⟨(.type "tuple"), .none, (.seq #[(.str (Z "_law_box_here") 2043), (.str (Z "_law_world_here") 2044), (.str (Z "_law_many") 2045), (.str (Z "_law_found") 2046), (.str (Z "_law_left") 2047), (.str (Z "_law_turn") 2048)] 0), #[]⟩
def o1331z (P : Params) : Obj := ⟨(.type "tuple"), .none, (.seq #[] 0), #[]⟩
def o1332z (P : Params) : Obj := ⟨.none, .none, (.func ⟨(Z "_law_wide_rows"), (Z "_law_wide_rows"), dA (tp 112), .stmts (dB (tp 112)), dS (tp 112), 0, [], .none, .none, .none, .none, .none, .none, .none, 0⟩), #[]⟩
def o1333z (P : Params) : Obj := ⟨(.type "code"), .none, (.fields #[(.str (Z "_law_wide_rows") 2040), (.str (Z "_law_wide_rows") 2041), (.str (Z "/claim/cut.py") 2042), (.int 757 0), (.int 3 0), (.int 0 0), (.int 0 0), (.int 3 0), (R 1328), (.bool true), (.int 181 0), (R 1329), .none, (R 1330), (R 1331), (R 1332), (.int 2049 0), (.int 757 0), (.str (Z "/claim/cut.py") 2050)]), #[]⟩
def o1334z (P : Params) : Obj := ⟨(.type "function"), .none, (.func ⟨(Z "_law_wide_rows"), (Z "_law_wide_rows"), dA (tp 112), .stmts (dB (tp 112)), dS (tp 112), 3, [], .none, .none, .none, (.str (Z "law_heldground_k23_histories_compared") 1939), .none, (R 1333), .none, 0⟩), #[]⟩
def o1335z (P : Params) : Obj := ⟨(.type "tuple"), .none, (.seq #[] 0), #[]⟩
def o1336z (P : Params) : Obj := ⟨.none, .none, (.fields #[]), #[]⟩
def o1337z (P : Params) : Obj := ⟨.none, .none, (.func ⟨(Z "_law_test_text"), (Z "_law_test_text"), dA (tp 113), .stmts (dB (tp 113)), dS (tp 113), 0, [], .none, .none, .none, .none, .none, .none, .none, 0⟩), #[]⟩
def o1338z (P : Params) : Obj := ⟨(.type "code"), .none, (.fields #[(.str (Z "_law_test_text") 2052), (.str (Z "_law_test_text") 2053), (.str (Z "/claim/cut.py") 2054), (.int 762 0), (.int 1 0), (.int 0 0), (.int 0 0), (.int 3 0), (R 1335), (.bool true), (.int 181 0), (R 1336), .none, .none, .none, (R 1337), (.int 2055 0), (.int 762 0), (.str (Z "/claim/cut.py") 2056)]), #[]⟩
def o1339z (P : Params) : Obj := ⟨(.type "function"), .none, (.func ⟨(Z "_law_test_text"), (Z "_law_test_text"), dA (tp 113), .stmts (dB (tp 113)), dS (tp 113), 3, [], .none, .none, .none, (.str (Z "law_heldground_k23_histories_compared") 1939), .none, (R 1338), .none, 0⟩), #[]⟩
def o1340z (P : Params) : Obj := ⟨(.type "tuple"), .none, (.seq #[] 0), #[]⟩
def o1341z (P : Params) : Obj := ⟨.none, .none, (.fields #[]), #[]⟩
def o1342z (P : Params) : Obj := ⟨.none, .none, (.func ⟨(Z "_law_lines"), (Z "_law_lines"), dA (tp 114), .stmts (dB (tp 114)), dS (tp 114), 0, [], .none, .none, .none, .none, .none, .none, .none, 0⟩), #[]⟩
def o1343z (P : Params) : Obj := ⟨(.type "code"), .none, (.fields #[(.str (Z "_law_lines") 2058), (.str (Z "_law_lines") 2059), (.str (Z "/claim/cut.py") 2060), (.int 768 0), (.int 1 0), (.int 0 0), (.int 0 0), (.int 3 0), (R 1340), (.bool true), (.int 181 0), (R 1341), .none, .none, .none, (R 1342), (.int 2061 0), (.int 768 0), (.str (Z "/claim/cut.py") 2062)]), #[]⟩
def o1344z (P : Params) : Obj := ⟨(.type "function"), .none, (.func ⟨(Z "_law_lines"), (Z "_law_lines"), dA (tp 114), .stmts (dB (tp 114)), dS (tp 114), 3, [], .none, .none, .none, (.str (Z "law_heldground_k23_histories_compared") 1939), .none, (R 1343), .none, 0⟩), #[]⟩
def o1345z (P : Params) : Obj := ⟨(.type "tuple"), .none, (.seq #[] 0), #[]⟩
def o1346z (P : Params) : Obj := ⟨.none, .none, (.fields #[]), #[]⟩
def o1347z (P : Params) : Obj := ⟨.none, .none, (.func ⟨(Z "_law_whole_lines"), (Z "_law_whole_lines"), dA (tp 115), .stmts (dB (tp 115)), dS (tp 115), 0, [], .none, .none, .none, .none, .none, .none, .none, 0⟩), #[]⟩
def o1348z (P : Params) : Obj := ⟨(.type "code"), .none, (.fields #[(.str (Z "_law_whole_lines") 2064), (.str (Z "_law_whole_lines") 2065), (.str (Z "/claim/cut.py") 2066), (.int 782 0), (.int 2 0), (.int 0 0), (.int 0 0), (.int 3 0), (R 1345), (.bool true), (.int 181 0), (R 1346), .none, .none, .none, (R 1347), (.int 2067 0), (.int 782 0), (.str (Z "/claim/cut.py") 2068)]), #[]⟩
def o1349z (P : Params) : Obj := ⟨(.type "function"), .none, (.func ⟨(Z "_law_whole_lines"), (Z "_law_whole_lines"), dA (tp 115), .stmts (dB (tp 115)), dS (tp 115), 3, [], .none, .none, .none, (.str (Z "law_heldground_k23_histories_compared") 1939), .none, (R 1348), .none, 0⟩), #[]⟩
def o1350z (P : Params) : Obj := ⟨(.type "tuple"), .none, (.seq #[] 0), #[]⟩
def o1351z (P : Params) : Obj := ⟨.none, .none, (.fields #[]), #[]⟩
def o1352z (P : Params) : Obj := ⟨(.type "tuple"), .none, (.seq #[(.str (Z "_law_rows") 2073), (.str (Z "_law_notes") 2074)] 0), #[]⟩
def o1353z (P : Params) : Obj := ⟨(.type "tuple"), .none, (.seq #[] 0), #[]⟩
def o1354z (P : Params) : Obj := ⟨.none, .none, (.func ⟨(Z "_law_chooser"), (Z "_law_chooser"), dA (tp 116), .stmts (dB (tp 116)), dS (tp 116), 0, [], .none, .none, .none, .none, .none, .none, .none, 0⟩), #[]⟩
def o1355z (P : Params) : Obj := ⟨(.type "code"), .none, (.fields #[(.str (Z "_law_chooser") 2070), (.str (Z "_law_chooser") 2071), (.str (Z "/claim/cut.py") 2072), (.int 784 0), (.int 2 0), (.int 0 0), (.int 0 0), (.int 3 0), (R 1350), (.bool true), (.int 181 0), (R 1351), .none, (R 1352), (R 1353), (R 1354), (.int 2075 0), (.int 784 0), (.str (Z "/claim/cut.py") 2076)]), #[]⟩
def o1356z (P : Params) : Obj := ⟨(.type "function"), .none, (.func ⟨(Z "_law_chooser"), (Z "_law_chooser"), dA (tp 116), .stmts (dB (tp 116)), dS (tp 116), 3, [], .none, .none, .none, (.str (Z "law_heldground_k23_histories_compared") 1939), .none, (R 1355), .none, 0⟩), #[]⟩
def o1357z (P : Params) : Obj := ⟨(.type "tuple"), .none, (.seq #[] 0), #[]⟩
def o1358z (P : Params) : Obj := ⟨.none, .none, (.fields #[]), #[]⟩
def o1359z (P : Params) : Obj := ⟨(.type "tuple"), .none, (.seq #[(.str (Z "_law_test") 2081), (.str (Z "_law_notes") 2082), (.str (Z "_law_rests") 2083), (.str (Z "_law_letters_here") 2084)] 0), #[]⟩
def o1360z (P : Params) : Obj := ⟨(.type "tuple"), .none, (.seq #[] 0), #[]⟩
def o1361z (P : Params) : Obj := ⟨.none, .none, (.func ⟨(Z "_law_is_so"), (Z "_law_is_so"), dA (tp 117), .stmts (dB (tp 117)), dS (tp 117), 0, [], .none, .none, .none, .none, .none, .none, .none, 0⟩), #[]⟩
def o1362z (P : Params) : Obj := ⟨(.type "code"), .none, (.fields #[(.str (Z "_law_is_so") 2078), (.str (Z "_law_is_so") 2079), (.str (Z "/claim/cut.py") 2080), (.int 786 0), (.int 4 0), (.int 0 0), (.int 0 0), (.int 3 0), (R 1357), (.bool true), (.int 181 0), (R 1358), .none, (R 1359), (R 1360), (R 1361), (.int 2085 0), (.int 786 0), (.str (Z "/claim/cut.py") 2086)]), #[]⟩
def o1363z (P : Params) : Obj := ⟨(.type "function"), .none, (.func ⟨(Z "_law_is_so"), (Z "_law_is_so"), dA (tp 117), .stmts (dB (tp 117)), dS (tp 117), 3, [], .none, .none, .none, (.str (Z "law_heldground_k23_histories_compared") 1939), .none, (R 1362), .none, 0⟩), #[]⟩
def o1364z (P : Params) : Obj := ⟨(.type "tuple"), .none, (.seq #[] 0), #[]⟩
def o1365z (P : Params) : Obj := ⟨.none, .none, (.fields #[]), #[]⟩
def o1366z (P : Params) : Obj := ⟨.none, .none, (.func ⟨(Z "_law_ground"), (Z "_law_ground"), dA (tp 118), .stmts (dB (tp 118)), dS (tp 118), 0, [], .none, .none, .none, .none, .none, .none, .none, 0⟩), #[]⟩
def o1367z (P : Params) : Obj := ⟨(.type "code"), .none, (.fields #[(.str (Z "_law_ground") 2088), (.str (Z "_law_ground") 2089), (.str (Z "/claim/cut.py") 2090), (.int 794 0), (.int 3 0), (.int 0 0), (.int 0 0), (.int 3 0), (R 1364), (.bool true), (.int 181 0), (R 1365), .none, .none, .none, (R 1366), (.int 2091 0), (.int 794 0), (.str (Z "/claim/cut.py") 2092)]), #[]⟩
def o1368z (P : Params) : Obj := ⟨(.type "function"), .none, (.func ⟨(Z "_law_ground"), (Z "_law_ground"), dA (tp 118), .stmts (dB (tp 118)), dS (tp 118), 3, [], .none, .none, .none, (.str (Z "law_heldground_k23_histories_compared") 1939), .none, (R 1367), .none, 0⟩), #[]⟩
def o1369z (P : Params) : Obj := ⟨(.type "tuple"), .none, (.seq #[] 0), #[]⟩
def o1370z (P : Params) : Obj := ⟨.none, .none, (.fields #[]), #[]⟩
def o1371z (P : Params) : Obj := ⟨.none, .none, (.func ⟨(Z "_law_do_rows"), (Z "_law_do_rows"), dA (tp 119), .stmts (dB (tp 119)), dS (tp 119), 0, [], .none, .none, .none, .none, .none, .none, .none, 0⟩), #[]⟩
def o1372z (P : Params) : Obj := ⟨(.type "code"), .none, (.fields #[(.str (Z "_law_do_rows") 2094), (.str (Z "_law_do_rows") 2095), (.str (Z "/claim/cut.py") 2096), (.int 802 0), (.int 5 0), (.int 0 0), (.int 0 0), (.int 3 0), (R 1369), (.bool true), (.int 181 0), (R 1370), .none, .none, .none, (R 1371), (.int 2097 0), (.int 802 0), (.str (Z "/claim/cut.py") 2098)]), #[]⟩
def o1373z (P : Params) : Obj := ⟨(.type "function"), .none, (.func ⟨(Z "_law_do_rows"), (Z "_law_do_rows"), dA (tp 119), .stmts (dB (tp 119)), dS (tp 119), 3, [], .none, .none, .none, (.str (Z "law_heldground_k23_histories_compared") 1939), .none, (R 1372), .none, 0⟩), #[]⟩
def o1374z (P : Params) : Obj := ⟨(.type "tuple"), .none, (.seq #[] 0), #[]⟩
def o1375z (P : Params) : Obj := ⟨.none, .none, (.fields #[]), #[]⟩
def o1376z (P : Params) : Obj := ⟨.none, .none, (.func ⟨(Z "_law_ends"), (Z "_law_ends"), dA (tp 120), .stmts (dB (tp 120)), dS (tp 120), 0, [], .none, .none, .none, .none, .none, .none, .none, 0⟩), #[]⟩
def o1377z (P : Params) : Obj := ⟨(.type "code"), .none, (.fields #[(.str (Z "_law_ends") 2100), (.str (Z "_law_ends") 2101), (.str (Z "/claim/cut.py") 2102), (.int 821 0), (.int 2 0), (.int 0 0), (.int 0 0), (.int 3 0), (R 1374), (.bool true), (.int 181 0), (R 1375), .none, .none, .none, (R 1376), (.int 2103 0), (.int 821 0), (.str (Z "/claim/cut.py") 2104)]), #[]⟩
def o1378z (P : Params) : Obj := ⟨(.type "function"), .none, (.func ⟨(Z "_law_ends"), (Z "_law_ends"), dA (tp 120), .stmts (dB (tp 120)), dS (tp 120), 3, [], .none, .none, .none, (.str (Z "law_heldground_k23_histories_compared") 1939), .none, (R 1377), .none, 0⟩), #[]⟩
def o1379z (P : Params) : Obj := ⟨(.type "tuple"), .none, (.seq #[] 0), #[]⟩
def o1380z (P : Params) : Obj := ⟨.none, .none, (.fields #[]), #[]⟩
def o1381z (P : Params) : Obj := ⟨(.type "tuple"), .none, (.seq #[(.str (Z "_law_ends_here") 2109), (.str (Z "_law_unheard") 2110), (.str (Z "_law_found") 2111), (.str (Z "_law_picture") 2112)] 0), #[]⟩
def o1382z (P : Params) : Obj := ⟨(.type "tuple"), .none, (.seq #[] 0), #[]⟩
def o1383z (P : Params) : Obj := ⟨.none, .none, (.func ⟨(Z "_law_letters"), (Z "_law_letters"), dA (tp 121), .stmts (dB (tp 121)), dS (tp 121), 0, [], .none, .none, .none, .none, .none, .none, .none, 0⟩), #[]⟩
def o1384z (P : Params) : Obj := ⟨(.type "code"), .none, (.fields #[(.str (Z "_law_letters") 2106), (.str (Z "_law_letters") 2107), (.str (Z "/claim/cut.py") 2108), (.int 824 0), (.int 2 0), (.int 0 0), (.int 0 0), (.int 3 0), (R 1379), (.bool true), (.int 181 0), (R 1380), .none, (R 1381), (R 1382), (R 1383), (.int 2113 0), (.int 824 0), (.str (Z "/claim/cut.py") 2114)]), #[]⟩
def o1385z (P : Params) : Obj := ⟨(.type "function"), .none, (.func ⟨(Z "_law_letters"), (Z "_law_letters"), dA (tp 121), .stmts (dB (tp 121)), dS (tp 121), 3, [], .none, .none, .none, (.str (Z "law_heldground_k23_histories_compared") 1939), .none, (R 1384), .none, 0⟩), #[]⟩
def o1386z (P : Params) : Obj := ⟨(.type "tuple"), .none, (.seq #[] 0), #[]⟩
def o1387z (P : Params) : Obj := ⟨.none, .none, (.fields #[]), #[]⟩
def o1388z (P : Params) : Obj := ⟨(.type "tuple"), .none, (.seq #[(.str (Z "_law_ends_here") 2119), (.str (Z "_law_ground_here") 2120), (.str (Z "_law_modulus") 2121), (.str (Z "_law_there") 2122), (.str (Z "_law_here") 2123)] 0), #[]⟩
def o1389z (P : Params) : Obj := ⟨(.type "tuple"), .none, (.seq #[] 0), #[]⟩
def o1390z (P : Params) : Obj := ⟨.none, .none, (.func ⟨(Z "_law_made"), (Z "_law_made"), dA (tp 122), .stmts (dB (tp 122)), dS (tp 122), 0, [], .none, .none, .none, .none, .none, .none, .none, 0⟩), #[]⟩
def o1391z (P : Params) : Obj := ⟨(.type "code"), .none, (.fields #[(.str (Z "_law_made") 2116), (.str (Z "_law_made") 2117), (.str (Z "/claim/cut.py") 2118), (.int 834 0), (.int 3 0), (.int 0 0), (.int 0 0), (.int 3 0), (R 1386), (.bool true), (.int 181 0), (R 1387), .none, (R 1388), (R 1389), (R 1390), (.int 2124 0), (.int 834 0), (.str (Z "/claim/cut.py") 2125)]), #[]⟩
def o1392z (P : Params) : Obj := ⟨(.type "function"), .none, (.func ⟨(Z "_law_made"), (Z "_law_made"), dA (tp 122), .stmts (dB (tp 122)), dS (tp 122), 3, [], .none, .none, .none, (.str (Z "law_heldground_k23_histories_compared") 1939), .none, (R 1391), .none, 0⟩), #[]⟩
def o1393z (P : Params) : Obj := ⟨(.type "tuple"), .none, (.seq #[] 0), #[]⟩
def o1394z (P : Params) : Obj := ⟨.none, .none, (.fields #[]), #[]⟩
def o1395z (P : Params) : Obj := ⟨.none, .none, (.func ⟨(Z "_law_go"), (Z "_law_go"), dA (tp 123), .stmts (dB (tp 123)), dS (tp 123), 0, [], .none, .none, .none, .none, .none, .none, .none, 0⟩), #[]⟩
def o1396z (P : Params) : Obj := ⟨(.type "code"), .none, (.fields #[(.str (Z "_law_go") 2127), (.str (Z "_law_go") 2128), (.str (Z "/claim/cut.py") 2129), (.int 843 0), (.int 5 0), (.int 0 0), (.int 0 0), (.int 3 0), (R 1393), (.bool true), (.int 181 0), (R 1394), .none, .none, .none, (R 1395), (.int 2130 0), (.int 843 0), (.str (Z "/claim/cut.py") 2131)]), #[]⟩
def o1397z (P : Params) : Obj := ⟨(.type "function"), .none, (.func ⟨(Z "_law_go"), (Z "_law_go"), dA (tp 123), .stmts (dB (tp 123)), dS (tp 123), 3, [], .none, .none, .none, (.str (Z "law_heldground_k23_histories_compared") 1939), .none, (R 1396), .none, 0⟩), #[]⟩
def o1398z (P : Params) : Obj := ⟨(.type "tuple"), .none, (.seq #[] 0), #[]⟩
def o1399z (P : Params) : Obj := ⟨.none, .none, (.fields #[]), #[]⟩
def o1400z (P : Params) : Obj := ⟨(.type "tuple"), .none, (.seq #[(.str (Z "_law_rows") 2136), (.str (Z "_law_notes") 2137), (.str (Z "_law_slots") 2138), (.str (Z "_law_turns_here") 2139), (.str (Z "_law_modulus") 2140), (.str (Z "_law_ends_here") 2141), (.str (Z "_law_turn") 2142)] 0), #[]⟩
def o1401z (P : Params) : Obj := ⟨(.type "tuple"), .none, (.seq #[] 0), #[]⟩
def o1402z (P : Params) : Obj := ⟨.none, .none, (.func ⟨(Z "_law_history"), (Z "_law_history"), dA (tp 124), .stmts (dB (tp 124)), dS (tp 124), 0, [], .none, .none, .none, .none, .none, .none, .none, 0⟩), #[]⟩
def o1403z (P : Params) : Obj := ⟨(.type "code"), .none, (.fields #[(.str (Z "_law_history") 2133), (.str (Z "_law_history") 2134), (.str (Z "/claim/cut.py") 2135), (.int 858 0), (.int 5 0), (.int 0 0), (.int 0 0), (.int 3 0), (R 1398), (.bool true), (.int 181 0), (R 1399), .none, (R 1400), (R 1401), (R 1402), (.int 2143 0), (.int 858 0), (.str (Z "/claim/cut.py") 2144)]), #[]⟩
def o1404z (P : Params) : Obj := ⟨(.type "function"), .none, (.func ⟨(Z "_law_history"), (Z "_law_history"), dA (tp 124), .stmts (dB (tp 124)), dS (tp 124), 3, [], .none, .none, .none, (.str (Z "law_heldground_k23_histories_compared") 1939), .none, (R 1403), .none, 0⟩), #[]⟩
def o1405z (P : Params) : Obj := ⟨(.type "tuple"), .none, (.seq #[] 0), #[]⟩
def o1406z (P : Params) : Obj := ⟨.none, .none, (.fields #[]), #[]⟩
def o1407z (P : Params) : Obj := ⟨(.type "tuple"), .none, (.seq #[(.str (Z "_law_box_here") 2149), (.str (Z "_law_slots") 2150)] 0), #[]⟩
def o1408z (P : Params) : Obj := ⟨(.type "tuple"), .none, (.seq #[] 0), #[]⟩
def o1409z (P : Params) : Obj := ⟨.none, .none, (.func ⟨(Z "_law_drawn_house"), (Z "_law_drawn_house"), dA (tp 125), .stmts (dB (tp 125)), dS (tp 125), 0, [], .none, .none, .none, .none, .none, .none, .none, 0⟩), #[]⟩
def o1410z (P : Params) : Obj := ⟨(.type "code"), .none, (.fields #[(.str (Z "_law_drawn_house") 2146), (.str (Z "_law_drawn_house") 2147), (.str (Z "/claim/cut.py") 2148), (.int 863 0), (.int 2 0), (.int 0 0), (.int 0 0), (.int 3 0), (R 1405), (.bool true), (.int 181 0), (R 1406), .none, (R 1407), (R 1408), (R 1409), (.int 2151 0), (.int 863 0), (.str (Z "/claim/cut.py") 2152)]), #[]⟩
def o1411z (P : Params) : Obj := ⟨(.type "function"), .none, (.func ⟨(Z "_law_drawn_house"), (Z "_law_drawn_house"), dA (tp 125), .stmts (dB (tp 125)), dS (tp 125), 3, [], .none, .none, .none, (.str (Z "law_heldground_k23_histories_compared") 1939), .none, (R 1410), .none, 0⟩), #[]⟩
def o1412z (P : Params) : Obj := ⟨(.type "tuple"), .none, (.seq #[] 0), #[]⟩
def o1413z (P : Params) : Obj := ⟨.none, .none, (.fields #[]), #[]⟩
def o1414z (P : Params) : Obj := ⟨.none, .none, (.func ⟨(Z "_law_can_lose"), (Z "_law_can_lose"), dA (tp 126), .stmts (dB (tp 126)), dS (tp 126), 0, [], .none, .none, .none, .none, .none, .none, .none, 0⟩), #[]⟩
def o1415z (P : Params) : Obj := ⟨(.type "code"), .none, (.fields #[(.str (Z "_law_can_lose") 2154), (.str (Z "_law_can_lose") 2155), (.str (Z "/claim/cut.py") 2156), (.int 867 0), (.int 2 0), (.int 0 0), (.int 0 0), (.int 3 0), (R 1412), (.bool true), (.int 181 0), (R 1413), .none, .none, .none, (R 1414), (.int 2157 0), (.int 867 0), (.str (Z "/claim/cut.py") 2158)]), #[]⟩
def o1416z (P : Params) : Obj := ⟨(.type "function"), .none, (.func ⟨(Z "_law_can_lose"), (Z "_law_can_lose"), dA (tp 126), .stmts (dB (tp 126)), dS (tp 126), 3, [], .none, .none, .none, (.str (Z "law_heldground_k23_histories_compared") 1939), .none, (R 1415), .none, 0⟩), #[]⟩
def o1417z (P : Params) : Obj := ⟨(.type "tuple"), .none, (.seq #[] 0), #[]⟩
def o1418z (P : Params) : Obj := ⟨.none, .none, (.fields #[]), #[]⟩
def o1419z (P : Params) : Obj := ⟨(.type "tuple"), .none, (.seq #[(.str (Z "_law_box_here") 2163), (.str (Z "_law_house") 2164), (.str (Z "_law_many") 2165), (.str (Z "_law_found") 2166), (.str (Z "_law_often") 2167), (.str (Z "_law_at") 2168), (.str (Z "_law_most") 2169), (.str (Z "_law_unheard") 2170)] 0), #[]⟩
def o1420z (P : Params) : Obj := ⟨(.type "tuple"), .none, (.seq #[] 0), #[]⟩
def o1421z (P : Params) : Obj := ⟨.none, .none, (.func ⟨(Z "_law_turns"), (Z "_law_turns"), dA (tp 127), .stmts (dB (tp 127)), dS (tp 127), 0, [], .none, .none, .none, .none, .none, .none, .none, 0⟩), #[]⟩
def o1422z (P : Params) : Obj := ⟨(.type "code"), .none, (.fields #[(.str (Z "_law_turns") 2160), (.str (Z "_law_turns") 2161), (.str (Z "/claim/cut.py") 2162), (.int 872 0), (.int 3 0), (.int 0 0), (.int 0 0), (.int 3 0), (R 1417), (.bool true), (.int 181 0), (R 1418), .none, (R 1419), (R 1420), (R 1421), (.int 2171 0), (.int 872 0), (.str (Z "/claim/cut.py") 2172)]), #[]⟩
def o1423z (P : Params) : Obj := ⟨(.type "function"), .none, (.func ⟨(Z "_law_turns"), (Z "_law_turns"), dA (tp 127), .stmts (dB (tp 127)), dS (tp 127), 3, [], .none, .none, .none, (.str (Z "law_heldground_k23_histories_compared") 1939), .none, (R 1422), .none, 0⟩), #[]⟩
def o1424z (P : Params) : Obj := ⟨(.type "tuple"), .none, (.seq #[] 0), #[]⟩
def o1425z (P : Params) : Obj := ⟨.none, .none, (.fields #[]), #[]⟩
def o1426z (P : Params) : Obj := ⟨(.type "tuple"), .none, (.seq #[(.str (Z "_law_house") 2177)] 0), #[]⟩
def o1427z (P : Params) : Obj := ⟨(.type "tuple"), .none, (.seq #[] 0), #[]⟩
def o1428z (P : Params) : Obj := ⟨.none, .none, (.func ⟨(Z "_law_house_of"), (Z "_law_house_of"), dA (tp 128), .stmts (dB (tp 128)), dS (tp 128), 0, [], .none, .none, .none, .none, .none, .none, .none, 0⟩), #[]⟩
def o1429z (P : Params) : Obj := ⟨(.type "code"), .none, (.fields #[(.str (Z "_law_house_of") 2174), (.str (Z "_law_house_of") 2175), (.str (Z "/claim/cut.py") 2176), (.int 879 0), (.int 1 0), (.int 0 0), (.int 0 0), (.int 3 0), (R 1424), (.bool true), (.int 181 0), (R 1425), .none, (R 1426), (R 1427), (R 1428), (.int 2178 0), (.int 879 0), (.str (Z "/claim/cut.py") 2179)]), #[]⟩
def o1430z (P : Params) : Obj := ⟨(.type "function"), .none, (.func ⟨(Z "_law_house_of"), (Z "_law_house_of"), dA (tp 128), .stmts (dB (tp 128)), dS (tp 128), 3, [], .none, .none, .none, (.str (Z "law_heldground_k23_histories_compared") 1939), .none, (R 1429), .none, 0⟩), #[]⟩
def o1431z (P : Params) : Obj := ⟨(.type "tuple"), .none, (.seq #[] 0), #[]⟩
def o1432z (P : Params) : Obj := ⟨.none, .none, (.fields #[]), #[]⟩
def o1433z (P : Params) : Obj := ⟨.none, .none, (.func ⟨(Z "_law_drawn"), (Z "_law_drawn"), dA (tp 129), .stmts (dB (tp 129)), dS (tp 129), 0, [], .none, .none, .none, .none, .none, .none, .none, 0⟩), #[]⟩
def o1434z (P : Params) : Obj := ⟨(.type "code"), .none, (.fields #[(.str (Z "_law_drawn") 2181), (.str (Z "_law_drawn") 2182), (.str (Z "/claim/cut.py") 2183), (.int 881 0), (.int 2 0), (.int 0 0), (.int 0 0), (.int 3 0), (R 1431), (.bool true), (.int 181 0), (R 1432), .none, .none, .none, (R 1433), (.int 2184 0), (.int 881 0), (.str (Z "/claim/cut.py") 2185)]), #[]⟩
def o1435z (P : Params) : Obj := ⟨(.type "function"), .none, (.func ⟨(Z "_law_drawn"), (Z "_law_drawn"), dA (tp 129), .stmts (dB (tp 129)), dS (tp 129), 3, [], .none, .none, .none, (.str (Z "law_heldground_k23_histories_compared") 1939), .none, (R 1434), .none, 0⟩), #[]⟩
def o1436z (P : Params) : Obj := ⟨(.type "tuple"), .none, (.seq #[] 0), #[]⟩
def o1437z (P : Params) : Obj := ⟨.none, .none, (.fields #[]), #[]⟩
def o1438z (P : Params) : Obj := ⟨(.type "tuple"), .none, (.seq #[(.str (Z "_law_script") 2190), (.str (Z "_law_k") 2191), (.str (Z "_law_box_here") 2192), (.str (Z "_law_slots") 2193), (.str (Z "_law_rows") 2194), (.str (Z "_law_notes") 2195), (.str (Z "_law_last") 2196), (.str (Z "_law_more") 2197), (.str (Z "_law_house") 2198), (.str (Z "_law_turns_here") 2199), (.str (Z "_law_wide") 2200), (.str (Z "_law_others") 2201), (.str (Z "_law_made_here") 2202), (.str (Z "_law_runs") 2203), (.str (Z "_law_some") 2204), (.str (Z "_law_room") 2205), (.str (Z "_law_given") 2206), (.str (Z "_law_modulus") 2207), (.str (Z "_law_history_here") 2208), (.str (Z "_law_one") 2209), (.str (Z "_law_its") 2210), (.str (Z "_law_other") 2211), (.str (Z "_law_whose") 2212)] 0), #[]⟩
def o1439z (P : Params) : Obj := ⟨(.type "tuple"), .none, (.seq #[] 0), #[]⟩
def o1440z (P : Params) : Obj := ⟨.none, .none, (.func ⟨(Z "law"), (Z "law"), dA (tp 130), .stmts (dB (tp 130)), dS (tp 130), 0, [], .none, .none, .none, .none, .none, .none, .none, 0⟩), #[]⟩
def o1441z (P : Params) : Obj := ⟨(.type "code"), .none, (.fields #[(.str (Z "law") 2187), (.str (Z "law") 2188), (.str (Z "/claim/cut.py") 2189), (.int 890 0), (.int 1 0), (.int 0 0), (.int 0 0), (.int 3 0), (R 1436), (.bool true), (.int 181 0), (R 1437), .none, (R 1438), (R 1439), (R 1440), (.int 2213 0), (.int 890 0), (.str (Z "/claim/cut.py") 2214)]), #[]⟩
def o1442z (P : Params) : Obj := ⟨(.type "function"), .none, (.func ⟨(Z "law"), (Z "law"), dA (tp 130), .stmts (dB (tp 130)), dS (tp 130), 3, [], .none, .none, .none, (.str (Z "law_heldground_k23_histories_compared") 1939), .none, (R 1441), .none, 0⟩), #[]⟩
def tz (P : Params) : BT := (N (boot_o_0 P) (N (boot_o_1 P) (N (o3z P) (N (boot_o_7 P) (N (o15b P) (N (o31b P) (N (o63b P) (N (o127b P) (N (o255b P) (N (o511c P) (N (o1023z P) O O) O) (N (o767c P) (N (o1279z P) O O) O)) (N (o383b P) (N (o639c P) (N (o1151z P) O O) O) (N (o895z P) (N (o1407z P) O O) O))) (N (o191b P) (N (o319b P) (N (o575c P) (N (o1087z P) O O) O) (N (o831c P) (N (o1343z P) O O) O)) (N (o447c P) (N (o703c P) (N (o1215z P) O O) O) (N (o959z P) O O)))) (N (o95b P) (N (o159b P) (N (o287b P) (N (o543c P) (N (o1055z P) O O) O) (N (o799c P) (N (o1311z P) O O) O)) (N (o415b P) (N (o671c P) (N (o1183z P) O O) O) (N (o927z P) (N (o1439z P) O O) O))) (N (o223b P) (N (o351b P) (N (o607c P) (N (o1119z P) O O) O) (N (o863z P) (N (o1375z P) O O) O)) (N (o479c P) (N (o735c P) (N (o1247z P) O O) O) (N (o991z P) O O))))) (N (o47b P) (N (o79b P) (N (o143b P) (N (o271b P) (N (o527c P) (N (o1039z P) O O) O) (N (o783c P) (N (o1295z P) O O) O)) (N (o399b P) (N (o655c P) (N (o1167z P) O O) O) (N (o911z P) (N (o1423z P) O O) O))) (N (o207b P) (N (o335b P) (N (o591c P) (N (o1103z P) O O) O) (N (o847z P) (N (o1359z P) O O) O)) (N (o463c P) (N (o719c P) (N (o1231z P) O O) O) (N (o975z P) O O)))) (N (o111b P) (N (o175b P) (N (o303b P) (N (o559c P) (N (o1071z P) O O) O) (N (o815c P) (N (o1327z P) O O) O)) (N (o431c P) (N (o687c P) (N (o1199z P) O O) O) (N (o943z P) O O))) (N (o239b P) (N (o367b P) (N (o623c P) (N (o1135z P) O O) O) (N (o879z P) (N (o1391z P) O O) O)) (N (o495c P) (N (o751c P) (N (o1263z P) O O) O) (N (o1007z P) O O)))))) (N (o23b P) (N (o39b P) (N (o71b P) (N (o135b P) (N (o263b P) (N (o519c P) (N (o1031z P) O O) O) (N (o775c P) (N (o1287z P) O O) O)) (N (o391b P) (N (o647c P) (N (o1159z P) O O) O) (N (o903z P) (N (o1415z P) O O) O))) (N (o199b P) (N (o327b P) (N (o583c P) (N (o1095z P) O O) O) (N (o839z P) (N (o1351z P) O O) O)) (N (o455c P) (N (o711c P) (N (o1223z P) O O) O) (N (o967z P) O O)))) (N (o103b P) (N (o167b P) (N (o295b P) (N (o551c P) (N (o1063z P) O O) O) (N (o807c P) (N (o1319z P) O O) O)) (N (o423b P) (N (o679c P) (N (o1191z P) O O) O) (N (o935z P) O O))) (N (o231b P) (N (o359b P) (N (o615c P) (N (o1127z P) O O) O) (N (o871z P) (N (o1383z P) O O) O)) (N (o487c P) (N (o743c P) (N (o1255z P) O O) O) (N (o999z P) O O))))) (N (o55b P) (N (o87b P) (N (o151b P) (N (o279b P) (N (o535c P) (N (o1047z P) O O) O) (N (o791c P) (N (o1303z P) O O) O)) (N (o407b P) (N (o663c P) (N (o1175z P) O O) O) (N (o919z P) (N (o1431z P) O O) O))) (N (o215b P) (N (o343b P) (N (o599c P) (N (o1111z P) O O) O) (N (o855z P) (N (o1367z P) O O) O)) (N (o471c P) (N (o727c P) (N (o1239z P) O O) O) (N (o983z P) O O)))) (N (o119b P) (N (o183b P) (N (o311b P) (N (o567c P) (N (o1079z P) O O) O) (N (o823c P) (N (o1335z P) O O) O)) (N (o439c P) (N (o695c P) (N (o1207z P) O O) O) (N (o951z P) O O))) (N (o247b P) (N (o375b P) (N (o631c P) (N (o1143z P) O O) O) (N (o887z P) (N (o1399z P) O O) O)) (N (o503c P) (N (o759c P) (N (o1271z P) O O) O) (N (o1015z P) O O))))))) (N (o11a P) (N (o19b P) (N (o35b P) (N (o67b P) (N (o131b P) (N (o259b P) (N (o515c P) (N (o1027z P) O O) O) (N (o771c P) (N (o1283z P) O O) O)) (N (o387b P) (N (o643c P) (N (o1155z P) O O) O) (N (o899z P) (N (o1411z P) O O) O))) (N (o195b P) (N (o323b P) (N (o579c P) (N (o1091z P) O O) O) (N (o835z P) (N (o1347z P) O O) O)) (N (o451c P) (N (o707c P) (N (o1219z P) O O) O) (N (o963z P) O O)))) (N (o99b P) (N (o163b P) (N (o291b P) (N (o547c P) (N (o1059z P) O O) O) (N (o803c P) (N (o1315z P) O O) O)) (N (o419b P) (N (o675c P) (N (o1187z P) O O) O) (N (o931z P) O O))) (N (o227b P) (N (o355b P) (N (o611c P) (N (o1123z P) O O) O) (N (o867z P) (N (o1379z P) O O) O)) (N (o483c P) (N (o739c P) (N (o1251z P) O O) O) (N (o995z P) O O))))) (N (o51b P) (N (o83b P) (N (o147b P) (N (o275b P) (N (o531c P) (N (o1043z P) O O) O) (N (o787c P) (N (o1299z P) O O) O)) (N (o403b P) (N (o659c P) (N (o1171z P) O O) O) (N (o915z P) (N (o1427z P) O O) O))) (N (o211b P) (N (o339b P) (N (o595c P) (N (o1107z P) O O) O) (N (o851z P) (N (o1363z P) O O) O)) (N (o467c P) (N (o723c P) (N (o1235z P) O O) O) (N (o979z P) O O)))) (N (o115b P) (N (o179b P) (N (o307b P) (N (o563c P) (N (o1075z P) O O) O) (N (o819c P) (N (o1331z P) O O) O)) (N (o435c P) (N (o691c P) (N (o1203z P) O O) O) (N (o947z P) O O))) (N (o243b P) (N (o371b P) (N (o627c P) (N (o1139z P) O O) O) (N (o883z P) (N (o1395z P) O O) O)) (N (o499c P) (N (o755c P) (N (o1267z P) O O) O) (N (o1011z P) O O)))))) (N (o27b P) (N (o43b P) (N (o75b P) (N (o139b P) (N (o267b P) (N (o523c P) (N (o1035z P) O O) O) (N (o779c P) (N (o1291z P) O O) O)) (N (o395b P) (N (o651c P) (N (o1163z P) O O) O) (N (o907z P) (N (o1419z P) O O) O))) (N (o203b P) (N (o331b P) (N (o587c P) (N (o1099z P) O O) O) (N (o843z P) (N (o1355z P) O O) O)) (N (o459c P) (N (o715c P) (N (o1227z P) O O) O) (N (o971z P) O O)))) (N (o107b P) (N (o171b P) (N (o299b P) (N (o555c P) (N (o1067z P) O O) O) (N (o811c P) (N (o1323z P) O O) O)) (N (o427c P) (N (o683c P) (N (o1195z P) O O) O) (N (o939z P) O O))) (N (o235b P) (N (o363b P) (N (o619c P) (N (o1131z P) O O) O) (N (o875z P) (N (o1387z P) O O) O)) (N (o491c P) (N (o747c P) (N (o1259z P) O O) O) (N (o1003z P) O O))))) (N (o59b P) (N (o91b P) (N (o155b P) (N (o283b P) (N (o539c P) (N (o1051z P) O O) O) (N (o795c P) (N (o1307z P) O O) O)) (N (o411b P) (N (o667c P) (N (o1179z P) O O) O) (N (o923z P) (N (o1435z P) O O) O))) (N (o219b P) (N (o347b P) (N (o603c P) (N (o1115z P) O O) O) (N (o859z P) (N (o1371z P) O O) O)) (N (o475c P) (N (o731c P) (N (o1243z P) O O) O) (N (o987z P) O O)))) (N (o123b P) (N (o187b P) (N (o315b P) (N (o571c P) (N (o1083z P) O O) O) (N (o827c P) (N (o1339z P) O O) O)) (N (o443c P) (N (o699c P) (N (o1211z P) O O) O) (N (o955z P) O O))) (N (o251b P) (N (o379b P) (N (o635c P) (N (o1147z P) O O) O) (N (o891z P) (N (o1403z P) O O) O)) (N (o507c P) (N (o763c P) (N (o1275z P) O O) O) (N (o1019z P) O O)))))))) (N (boot_o_5 P) (N (boot_o_9 P) (N (o17b P) (N (o33b P) (N (o65b P) (N (o129b P) (N (o257b P) (N (o513c P) (N (o1025z P) O O) O) (N (o769c P) (N (o1281z P) O O) O)) (N (o385b P) (N (o641c P) (N (o1153z P) O O) O) (N (o897z P) (N (o1409z P) O O) O))) (N (o193b P) (N (o321b P) (N (o577c P) (N (o1089z P) O O) O) (N (o833c P) (N (o1345z P) O O) O)) (N (o449c P) (N (o705c P) (N (o1217z P) O O) O) (N (o961z P) O O)))) (N (o97b P) (N (o161b P) (N (o289b P) (N (o545c P) (N (o1057z P) O O) O) (N (o801c P) (N (o1313z P) O O) O)) (N (o417b P) (N (o673c P) (N (o1185z P) O O) O) (N (o929z P) (N (o1441z P) O O) O))) (N (o225b P) (N (o353b P) (N (o609c P) (N (o1121z P) O O) O) (N (o865z P) (N (o1377z P) O O) O)) (N (o481c P) (N (o737c P) (N (o1249z P) O O) O) (N (o993z P) O O))))) (N (o49b P) (N (o81b P) (N (o145b P) (N (o273b P) (N (o529c P) (N (o1041z P) O O) O) (N (o785c P) (N (o1297z P) O O) O)) (N (o401b P) (N (o657c P) (N (o1169z P) O O) O) (N (o913z P) (N (o1425z P) O O) O))) (N (o209b P) (N (o337b P) (N (o593c P) (N (o1105z P) O O) O) (N (o849z P) (N (o1361z P) O O) O)) (N (o465c P) (N (o721c P) (N (o1233z P) O O) O) (N (o977z P) O O)))) (N (o113b P) (N (o177b P) (N (o305b P) (N (o561c P) (N (o1073z P) O O) O) (N (o817c P) (N (o1329z P) O O) O)) (N (o433c P) (N (o689c P) (N (o1201z P) O O) O) (N (o945z P) O O))) (N (o241b P) (N (o369b P) (N (o625c P) (N (o1137z P) O O) O) (N (o881z P) (N (o1393z P) O O) O)) (N (o497c P) (N (o753c P) (N (o1265z P) O O) O) (N (o1009z P) O O)))))) (N (o25b P) (N (o41b P) (N (o73b P) (N (o137b P) (N (o265b P) (N (o521c P) (N (o1033z P) O O) O) (N (o777c P) (N (o1289z P) O O) O)) (N (o393b P) (N (o649c P) (N (o1161z P) O O) O) (N (o905z P) (N (o1417z P) O O) O))) (N (o201b P) (N (o329b P) (N (o585c P) (N (o1097z P) O O) O) (N (o841z P) (N (o1353z P) O O) O)) (N (o457c P) (N (o713c P) (N (o1225z P) O O) O) (N (o969z P) O O)))) (N (o105b P) (N (o169b P) (N (o297b P) (N (o553c P) (N (o1065z P) O O) O) (N (o809c P) (N (o1321z P) O O) O)) (N (o425c P) (N (o681c P) (N (o1193z P) O O) O) (N (o937z P) O O))) (N (o233b P) (N (o361b P) (N (o617c P) (N (o1129z P) O O) O) (N (o873z P) (N (o1385z P) O O) O)) (N (o489c P) (N (o745c P) (N (o1257z P) O O) O) (N (o1001z P) O O))))) (N (o57b P) (N (o89b P) (N (o153b P) (N (o281b P) (N (o537c P) (N (o1049z P) O O) O) (N (o793c P) (N (o1305z P) O O) O)) (N (o409b P) (N (o665c P) (N (o1177z P) O O) O) (N (o921z P) (N (o1433z P) O O) O))) (N (o217b P) (N (o345b P) (N (o601c P) (N (o1113z P) O O) O) (N (o857z P) (N (o1369z P) O O) O)) (N (o473c P) (N (o729c P) (N (o1241z P) O O) O) (N (o985z P) O O)))) (N (o121b P) (N (o185b P) (N (o313b P) (N (o569c P) (N (o1081z P) O O) O) (N (o825c P) (N (o1337z P) O O) O)) (N (o441c P) (N (o697c P) (N (o1209z P) O O) O) (N (o953z P) O O))) (N (o249b P) (N (o377b P) (N (o633c P) (N (o1145z P) O O) O) (N (o889z P) (N (o1401z P) O O) O)) (N (o505c P) (N (o761c P) (N (o1273z P) O O) O) (N (o1017z P) O O))))))) (N (o13a P) (N (o21b P) (N (o37b P) (N (o69b P) (N (o133b P) (N (o261b P) (N (o517c P) (N (o1029z P) O O) O) (N (o773c P) (N (o1285z P) O O) O)) (N (o389b P) (N (o645c P) (N (o1157z P) O O) O) (N (o901z P) (N (o1413z P) O O) O))) (N (o197b P) (N (o325b P) (N (o581c P) (N (o1093z P) O O) O) (N (o837z P) (N (o1349z P) O O) O)) (N (o453c P) (N (o709c P) (N (o1221z P) O O) O) (N (o965z P) O O)))) (N (o101b P) (N (o165b P) (N (o293b P) (N (o549c P) (N (o1061z P) O O) O) (N (o805c P) (N (o1317z P) O O) O)) (N (o421b P) (N (o677c P) (N (o1189z P) O O) O) (N (o933z P) O O))) (N (o229b P) (N (o357b P) (N (o613c P) (N (o1125z P) O O) O) (N (o869z P) (N (o1381z P) O O) O)) (N (o485c P) (N (o741c P) (N (o1253z P) O O) O) (N (o997z P) O O))))) (N (o53b P) (N (o85b P) (N (o149b P) (N (o277b P) (N (o533c P) (N (o1045z P) O O) O) (N (o789c P) (N (o1301z P) O O) O)) (N (o405b P) (N (o661c P) (N (o1173z P) O O) O) (N (o917z P) (N (o1429z P) O O) O))) (N (o213b P) (N (o341b P) (N (o597c P) (N (o1109z P) O O) O) (N (o853z P) (N (o1365z P) O O) O)) (N (o469c P) (N (o725c P) (N (o1237z P) O O) O) (N (o981z P) O O)))) (N (o117b P) (N (o181b P) (N (o309b P) (N (o565c P) (N (o1077z P) O O) O) (N (o821c P) (N (o1333z P) O O) O)) (N (o437c P) (N (o693c P) (N (o1205z P) O O) O) (N (o949z P) O O))) (N (o245b P) (N (o373b P) (N (o629c P) (N (o1141z P) O O) O) (N (o885z P) (N (o1397z P) O O) O)) (N (o501c P) (N (o757c P) (N (o1269z P) O O) O) (N (o1013z P) O O)))))) (N (o29b P) (N (o45b P) (N (o77b P) (N (o141b P) (N (o269b P) (N (o525c P) (N (o1037z P) O O) O) (N (o781c P) (N (o1293z P) O O) O)) (N (o397b P) (N (o653c P) (N (o1165z P) O O) O) (N (o909z P) (N (o1421z P) O O) O))) (N (o205b P) (N (o333b P) (N (o589c P) (N (o1101z P) O O) O) (N (o845z P) (N (o1357z P) O O) O)) (N (o461c P) (N (o717c P) (N (o1229z P) O O) O) (N (o973z P) O O)))) (N (o109b P) (N (o173b P) (N (o301b P) (N (o557c P) (N (o1069z P) O O) O) (N (o813c P) (N (o1325z P) O O) O)) (N (o429c P) (N (o685c P) (N (o1197z P) O O) O) (N (o941z P) O O))) (N (o237b P) (N (o365b P) (N (o621c P) (N (o1133z P) O O) O) (N (o877z P) (N (o1389z P) O O) O)) (N (o493c P) (N (o749c P) (N (o1261z P) O O) O) (N (o1005z P) O O))))) (N (o61b P) (N (o93b P) (N (o157b P) (N (o285b P) (N (o541c P) (N (o1053z P) O O) O) (N (o797c P) (N (o1309z P) O O) O)) (N (o413b P) (N (o669c P) (N (o1181z P) O O) O) (N (o925z P) (N (o1437z P) O O) O))) (N (o221b P) (N (o349b P) (N (o605c P) (N (o1117z P) O O) O) (N (o861z P) (N (o1373z P) O O) O)) (N (o477c P) (N (o733c P) (N (o1245z P) O O) O) (N (o989z P) O O)))) (N (o125b P) (N (o189b P) (N (o317b P) (N (o573c P) (N (o1085z P) O O) O) (N (o829c P) (N (o1341z P) O O) O)) (N (o445c P) (N (o701c P) (N (o1213z P) O O) O) (N (o957z P) O O))) (N (o253b P) (N (o381b P) (N (o637c P) (N (o1149z P) O O) O) (N (o893z P) (N (o1405z P) O O) O)) (N (o509c P) (N (o765c P) (N (o1277z P) O O) O) (N (o1021z P) O O))))))))) (N (boot_o_2 P) (N (boot_o_4 P) (N (boot_o_8 P) (N (o16b P) (N (o32b P) (N (o64b P) (N (o128b P) (N (o256b P) (N (o512c P) (N (o1024z P) O O) O) (N (o768c P) (N (o1280z P) O O) O)) (N (o384b P) (N (o640c P) (N (o1152z P) O O) O) (N (o896z P) (N (o1408z P) O O) O))) (N (o192b P) (N (o320b P) (N (o576c P) (N (o1088z P) O O) O) (N (o832c P) (N (o1344z P) O O) O)) (N (o448c P) (N (o704c P) (N (o1216z P) O O) O) (N (o960z P) O O)))) (N (o96b P) (N (o160b P) (N (o288b P) (N (o544c P) (N (o1056z P) O O) O) (N (o800c P) (N (o1312z P) O O) O)) (N (o416b P) (N (o672c P) (N (o1184z P) O O) O) (N (o928z P) (N (o1440z P) O O) O))) (N (o224b P) (N (o352b P) (N (o608c P) (N (o1120z P) O O) O) (N (o864z P) (N (o1376z P) O O) O)) (N (o480c P) (N (o736c P) (N (o1248z P) O O) O) (N (o992z P) O O))))) (N (o48b P) (N (o80b P) (N (o144b P) (N (o272b P) (N (o528c P) (N (o1040z P) O O) O) (N (o784c P) (N (o1296z P) O O) O)) (N (o400b P) (N (o656c P) (N (o1168z P) O O) O) (N (o912z P) (N (o1424z P) O O) O))) (N (o208b P) (N (o336b P) (N (o592c P) (N (o1104z P) O O) O) (N (o848z P) (N (o1360z P) O O) O)) (N (o464c P) (N (o720c P) (N (o1232z P) O O) O) (N (o976z P) O O)))) (N (o112b P) (N (o176b P) (N (o304b P) (N (o560c P) (N (o1072z P) O O) O) (N (o816c P) (N (o1328z P) O O) O)) (N (o432c P) (N (o688c P) (N (o1200z P) O O) O) (N (o944z P) O O))) (N (o240b P) (N (o368b P) (N (o624c P) (N (o1136z P) O O) O) (N (o880z P) (N (o1392z P) O O) O)) (N (o496c P) (N (o752c P) (N (o1264z P) O O) O) (N (o1008z P) O O)))))) (N (o24b P) (N (o40b P) (N (o72b P) (N (o136b P) (N (o264b P) (N (o520c P) (N (o1032z P) O O) O) (N (o776c P) (N (o1288z P) O O) O)) (N (o392b P) (N (o648c P) (N (o1160z P) O O) O) (N (o904z P) (N (o1416z P) O O) O))) (N (o200b P) (N (o328b P) (N (o584c P) (N (o1096z P) O O) O) (N (o840z P) (N (o1352z P) O O) O)) (N (o456c P) (N (o712c P) (N (o1224z P) O O) O) (N (o968z P) O O)))) (N (o104b P) (N (o168b P) (N (o296b P) (N (o552c P) (N (o1064z P) O O) O) (N (o808c P) (N (o1320z P) O O) O)) (N (o424c P) (N (o680c P) (N (o1192z P) O O) O) (N (o936z P) O O))) (N (o232b P) (N (o360b P) (N (o616c P) (N (o1128z P) O O) O) (N (o872z P) (N (o1384z P) O O) O)) (N (o488c P) (N (o744c P) (N (o1256z P) O O) O) (N (o1000z P) O O))))) (N (o56b P) (N (o88b P) (N (o152b P) (N (o280b P) (N (o536c P) (N (o1048z P) O O) O) (N (o792c P) (N (o1304z P) O O) O)) (N (o408b P) (N (o664c P) (N (o1176z P) O O) O) (N (o920z P) (N (o1432z P) O O) O))) (N (o216b P) (N (o344b P) (N (o600c P) (N (o1112z P) O O) O) (N (o856z P) (N (o1368z P) O O) O)) (N (o472c P) (N (o728c P) (N (o1240z P) O O) O) (N (o984z P) O O)))) (N (o120b P) (N (o184b P) (N (o312b P) (N (o568c P) (N (o1080z P) O O) O) (N (o824c P) (N (o1336z P) O O) O)) (N (o440c P) (N (o696c P) (N (o1208z P) O O) O) (N (o952z P) O O))) (N (o248b P) (N (o376b P) (N (o632c P) (N (o1144z P) O O) O) (N (o888z P) (N (o1400z P) O O) O)) (N (o504c P) (N (o760c P) (N (o1272z P) O O) O) (N (o1016z P) O O))))))) (N (o12z P) (N (o20b P) (N (o36b P) (N (o68b P) (N (o132b P) (N (o260b P) (N (o516c P) (N (o1028z P) O O) O) (N (o772c P) (N (o1284z P) O O) O)) (N (o388b P) (N (o644c P) (N (o1156z P) O O) O) (N (o900z P) (N (o1412z P) O O) O))) (N (o196b P) (N (o324b P) (N (o580c P) (N (o1092z P) O O) O) (N (o836z P) (N (o1348z P) O O) O)) (N (o452c P) (N (o708c P) (N (o1220z P) O O) O) (N (o964z P) O O)))) (N (o100b P) (N (o164b P) (N (o292b P) (N (o548c P) (N (o1060z P) O O) O) (N (o804c P) (N (o1316z P) O O) O)) (N (o420b P) (N (o676c P) (N (o1188z P) O O) O) (N (o932z P) O O))) (N (o228b P) (N (o356b P) (N (o612c P) (N (o1124z P) O O) O) (N (o868z P) (N (o1380z P) O O) O)) (N (o484c P) (N (o740c P) (N (o1252z P) O O) O) (N (o996z P) O O))))) (N (o52b P) (N (o84b P) (N (o148b P) (N (o276b P) (N (o532c P) (N (o1044z P) O O) O) (N (o788c P) (N (o1300z P) O O) O)) (N (o404b P) (N (o660c P) (N (o1172z P) O O) O) (N (o916z P) (N (o1428z P) O O) O))) (N (o212b P) (N (o340b P) (N (o596c P) (N (o1108z P) O O) O) (N (o852z P) (N (o1364z P) O O) O)) (N (o468c P) (N (o724c P) (N (o1236z P) O O) O) (N (o980z P) O O)))) (N (o116b P) (N (o180b P) (N (o308b P) (N (o564c P) (N (o1076z P) O O) O) (N (o820c P) (N (o1332z P) O O) O)) (N (o436c P) (N (o692c P) (N (o1204z P) O O) O) (N (o948z P) O O))) (N (o244b P) (N (o372b P) (N (o628c P) (N (o1140z P) O O) O) (N (o884z P) (N (o1396z P) O O) O)) (N (o500c P) (N (o756c P) (N (o1268z P) O O) O) (N (o1012z P) O O)))))) (N (o28b P) (N (o44b P) (N (o76b P) (N (o140b P) (N (o268b P) (N (o524c P) (N (o1036z P) O O) O) (N (o780c P) (N (o1292z P) O O) O)) (N (o396b P) (N (o652c P) (N (o1164z P) O O) O) (N (o908z P) (N (o1420z P) O O) O))) (N (o204b P) (N (o332b P) (N (o588c P) (N (o1100z P) O O) O) (N (o844z P) (N (o1356z P) O O) O)) (N (o460c P) (N (o716c P) (N (o1228z P) O O) O) (N (o972z P) O O)))) (N (o108b P) (N (o172b P) (N (o300b P) (N (o556c P) (N (o1068z P) O O) O) (N (o812c P) (N (o1324z P) O O) O)) (N (o428c P) (N (o684c P) (N (o1196z P) O O) O) (N (o940z P) O O))) (N (o236b P) (N (o364b P) (N (o620c P) (N (o1132z P) O O) O) (N (o876z P) (N (o1388z P) O O) O)) (N (o492c P) (N (o748c P) (N (o1260z P) O O) O) (N (o1004z P) O O))))) (N (o60b P) (N (o92b P) (N (o156b P) (N (o284b P) (N (o540c P) (N (o1052z P) O O) O) (N (o796c P) (N (o1308z P) O O) O)) (N (o412b P) (N (o668c P) (N (o1180z P) O O) O) (N (o924z P) (N (o1436z P) O O) O))) (N (o220b P) (N (o348b P) (N (o604c P) (N (o1116z P) O O) O) (N (o860z P) (N (o1372z P) O O) O)) (N (o476c P) (N (o732c P) (N (o1244z P) O O) O) (N (o988z P) O O)))) (N (o124b P) (N (o188b P) (N (o316b P) (N (o572c P) (N (o1084z P) O O) O) (N (o828c P) (N (o1340z P) O O) O)) (N (o444c P) (N (o700c P) (N (o1212z P) O O) O) (N (o956z P) O O))) (N (o252b P) (N (o380b P) (N (o636c P) (N (o1148z P) O O) O) (N (o892z P) (N (o1404z P) O O) O)) (N (o508c P) (N (o764c P) (N (o1276z P) O O) O) (N (o1020z P) O O)))))))) (N (boot_o_6 P) (N (boot_o_10 P) (N (o18b P) (N (o34b P) (N (o66b P) (N (o130b P) (N (o258b P) (N (o514c P) (N (o1026z P) O O) O) (N (o770c P) (N (o1282z P) O O) O)) (N (o386b P) (N (o642c P) (N (o1154z P) O O) O) (N (o898z P) (N (o1410z P) O O) O))) (N (o194b P) (N (o322b P) (N (o578c P) (N (o1090z P) O O) O) (N (o834c P) (N (o1346z P) O O) O)) (N (o450c P) (N (o706c P) (N (o1218z P) O O) O) (N (o962z P) O O)))) (N (o98b P) (N (o162b P) (N (o290b P) (N (o546c P) (N (o1058z P) O O) O) (N (o802c P) (N (o1314z P) O O) O)) (N (o418b P) (N (o674c P) (N (o1186z P) O O) O) (N (o930z P) (N (o1442z P) O O) O))) (N (o226b P) (N (o354b P) (N (o610c P) (N (o1122z P) O O) O) (N (o866z P) (N (o1378z P) O O) O)) (N (o482c P) (N (o738c P) (N (o1250z P) O O) O) (N (o994z P) O O))))) (N (o50b P) (N (o82b P) (N (o146b P) (N (o274b P) (N (o530c P) (N (o1042z P) O O) O) (N (o786c P) (N (o1298z P) O O) O)) (N (o402b P) (N (o658c P) (N (o1170z P) O O) O) (N (o914z P) (N (o1426z P) O O) O))) (N (o210b P) (N (o338b P) (N (o594c P) (N (o1106z P) O O) O) (N (o850z P) (N (o1362z P) O O) O)) (N (o466c P) (N (o722c P) (N (o1234z P) O O) O) (N (o978z P) O O)))) (N (o114b P) (N (o178b P) (N (o306b P) (N (o562c P) (N (o1074z P) O O) O) (N (o818c P) (N (o1330z P) O O) O)) (N (o434c P) (N (o690c P) (N (o1202z P) O O) O) (N (o946z P) O O))) (N (o242b P) (N (o370b P) (N (o626c P) (N (o1138z P) O O) O) (N (o882z P) (N (o1394z P) O O) O)) (N (o498c P) (N (o754c P) (N (o1266z P) O O) O) (N (o1010z P) O O)))))) (N (o26b P) (N (o42b P) (N (o74b P) (N (o138b P) (N (o266b P) (N (o522c P) (N (o1034z P) O O) O) (N (o778c P) (N (o1290z P) O O) O)) (N (o394b P) (N (o650c P) (N (o1162z P) O O) O) (N (o906z P) (N (o1418z P) O O) O))) (N (o202b P) (N (o330b P) (N (o586c P) (N (o1098z P) O O) O) (N (o842z P) (N (o1354z P) O O) O)) (N (o458c P) (N (o714c P) (N (o1226z P) O O) O) (N (o970z P) O O)))) (N (o106b P) (N (o170b P) (N (o298b P) (N (o554c P) (N (o1066z P) O O) O) (N (o810c P) (N (o1322z P) O O) O)) (N (o426c P) (N (o682c P) (N (o1194z P) O O) O) (N (o938z P) O O))) (N (o234b P) (N (o362b P) (N (o618c P) (N (o1130z P) O O) O) (N (o874z P) (N (o1386z P) O O) O)) (N (o490c P) (N (o746c P) (N (o1258z P) O O) O) (N (o1002z P) O O))))) (N (o58b P) (N (o90b P) (N (o154b P) (N (o282c P) (N (o538c P) (N (o1050z P) O O) O) (N (o794c P) (N (o1306z P) O O) O)) (N (o410b P) (N (o666c P) (N (o1178z P) O O) O) (N (o922z P) (N (o1434z P) O O) O))) (N (o218b P) (N (o346b P) (N (o602c P) (N (o1114z P) O O) O) (N (o858z P) (N (o1370z P) O O) O)) (N (o474c P) (N (o730c P) (N (o1242z P) O O) O) (N (o986z P) O O)))) (N (o122b P) (N (o186b P) (N (o314b P) (N (o570c P) (N (o1082z P) O O) O) (N (o826c P) (N (o1338z P) O O) O)) (N (o442c P) (N (o698c P) (N (o1210z P) O O) O) (N (o954z P) O O))) (N (o250b P) (N (o378b P) (N (o634c P) (N (o1146z P) O O) O) (N (o890z P) (N (o1402z P) O O) O)) (N (o506c P) (N (o762c P) (N (o1274z P) O O) O) (N (o1018z P) O O))))))) (N (o14a P) (N (o22b P) (N (o38b P) (N (o70b P) (N (o134b P) (N (o262b P) (N (o518c P) (N (o1030z P) O O) O) (N (o774c P) (N (o1286z P) O O) O)) (N (o390b P) (N (o646c P) (N (o1158z P) O O) O) (N (o902z P) (N (o1414z P) O O) O))) (N (o198b P) (N (o326b P) (N (o582c P) (N (o1094z P) O O) O) (N (o838z P) (N (o1350z P) O O) O)) (N (o454c P) (N (o710c P) (N (o1222z P) O O) O) (N (o966z P) O O)))) (N (o102b P) (N (o166b P) (N (o294c P) (N (o550c P) (N (o1062z P) O O) O) (N (o806c P) (N (o1318z P) O O) O)) (N (o422b P) (N (o678c P) (N (o1190z P) O O) O) (N (o934z P) O O))) (N (o230b P) (N (o358b P) (N (o614c P) (N (o1126z P) O O) O) (N (o870z P) (N (o1382z P) O O) O)) (N (o486c P) (N (o742c P) (N (o1254z P) O O) O) (N (o998z P) O O))))) (N (o54b P) (N (o86b P) (N (o150b P) (N (o278b P) (N (o534c P) (N (o1046z P) O O) O) (N (o790c P) (N (o1302z P) O O) O)) (N (o406b P) (N (o662c P) (N (o1174z P) O O) O) (N (o918z P) (N (o1430z P) O O) O))) (N (o214b P) (N (o342b P) (N (o598c P) (N (o1110z P) O O) O) (N (o854z P) (N (o1366z P) O O) O)) (N (o470c P) (N (o726c P) (N (o1238z P) O O) O) (N (o982z P) O O)))) (N (o118b P) (N (o182b P) (N (o310b P) (N (o566c P) (N (o1078z P) O O) O) (N (o822c P) (N (o1334z P) O O) O)) (N (o438c P) (N (o694c P) (N (o1206z P) O O) O) (N (o950z P) O O))) (N (o246b P) (N (o374b P) (N (o630c P) (N (o1142z P) O O) O) (N (o886z P) (N (o1398z P) O O) O)) (N (o502c P) (N (o758c P) (N (o1270z P) O O) O) (N (o1014z P) O O)))))) (N (o30b P) (N (o46b P) (N (o78b P) (N (o142b P) (N (o270b P) (N (o526c P) (N (o1038z P) O O) O) (N (o782c P) (N (o1294z P) O O) O)) (N (o398b P) (N (o654c P) (N (o1166z P) O O) O) (N (o910z P) (N (o1422z P) O O) O))) (N (o206b P) (N (o334b P) (N (o590c P) (N (o1102z P) O O) O) (N (o846z P) (N (o1358z P) O O) O)) (N (o462c P) (N (o718c P) (N (o1230z P) O O) O) (N (o974z P) O O)))) (N (o110b P) (N (o174b P) (N (o302b P) (N (o558c P) (N (o1070z P) O O) O) (N (o814c P) (N (o1326z P) O O) O)) (N (o430c P) (N (o686c P) (N (o1198z P) O O) O) (N (o942z P) O O))) (N (o238b P) (N (o366b P) (N (o622c P) (N (o1134z P) O O) O) (N (o878z P) (N (o1390z P) O O) O)) (N (o494c P) (N (o750c P) (N (o1262z P) O O) O) (N (o1006z P) O O))))) (N (o62b P) (N (o94b P) (N (o158b P) (N (o286b P) (N (o542c P) (N (o1054z P) O O) O) (N (o798c P) (N (o1310z P) O O) O)) (N (o414b P) (N (o670c P) (N (o1182z P) O O) O) (N (o926z P) (N (o1438z P) O O) O))) (N (o222b P) (N (o350b P) (N (o606c P) (N (o1118z P) O O) O) (N (o862z P) (N (o1374z P) O O) O)) (N (o478c P) (N (o734c P) (N (o1246z P) O O) O) (N (o990z P) O O)))) (N (o126b P) (N (o190b P) (N (o318b P) (N (o574c P) (N (o1086z P) O O) O) (N (o830c P) (N (o1342z P) O O) O)) (N (o446c P) (N (o702c P) (N (o1214z P) O O) O) (N (o958z P) O O))) (N (o254b P) (N (o382b P) (N (o638c P) (N (o1150z P) O O) O) (N (o894z P) (N (o1406z P) O O) O)) (N (o510c P) (N (o766c P) (N (o1278z P) O O) O) (N (o1022z P) O O))))))))))
def Sz (w : World) (os : OsState) : SharedT := ⟨tz w.params, 1443, (boot_heap w.params).life, #[], boot_drawn, 2216, os⟩
def ty (P : Params) : BT := (N (boot_o_0 P) (N (boot_o_1 P) (N (o3z P) (N (boot_o_7 P) (N (o15b P) (N (o31b P) (N (o63b P) (N (o127b P) (N (o255b P) (N (o511c P) (N (o1023z P) O O) O) (N (o767c P) (N (o1279z P) O O) O)) (N (o383b P) (N (o639c P) (N (o1151z P) O O) O) (N (o895z P) (N (o1407z P) O O) O))) (N (o191b P) (N (o319b P) (N (o575c P) (N (o1087z P) O O) O) (N (o831c P) (N (o1343z P) O O) O)) (N (o447c P) (N (o703c P) (N (o1215z P) O O) O) (N (o959z P) O O)))) (N (o95b P) (N (o159b P) (N (o287b P) (N (o543c P) (N (o1055z P) O O) O) (N (o799c P) (N (o1311z P) O O) O)) (N (o415b P) (N (o671c P) (N (o1183z P) O O) O) (N (o927z P) (N (o1439z P) O O) O))) (N (o223b P) (N (o351b P) (N (o607c P) (N (o1119z P) O O) O) (N (o863z P) (N (o1375z P) O O) O)) (N (o479c P) (N (o735c P) (N (o1247z P) O O) O) (N (o991z P) O O))))) (N (o47b P) (N (o79b P) (N (o143b P) (N (o271b P) (N (o527c P) (N (o1039z P) O O) O) (N (o783c P) (N (o1295z P) O O) O)) (N (o399b P) (N (o655c P) (N (o1167z P) O O) O) (N (o911z P) (N (o1423z P) O O) O))) (N (o207b P) (N (o335b P) (N (o591c P) (N (o1103z P) O O) O) (N (o847z P) (N (o1359z P) O O) O)) (N (o463c P) (N (o719c P) (N (o1231z P) O O) O) (N (o975z P) O O)))) (N (o111b P) (N (o175b P) (N (o303b P) (N (o559c P) (N (o1071z P) O O) O) (N (o815c P) (N (o1327z P) O O) O)) (N (o431c P) (N (o687c P) (N (o1199z P) O O) O) (N (o943z P) O O))) (N (o239b P) (N (o367b P) (N (o623c P) (N (o1135z P) O O) O) (N (o879z P) (N (o1391z P) O O) O)) (N (o495c P) (N (o751c P) (N (o1263z P) O O) O) (N (o1007z P) O O)))))) (N (o23b P) (N (o39b P) (N (o71b P) (N (o135b P) (N (o263b P) (N (o519c P) (N (o1031z P) O O) O) (N (o775c P) (N (o1287z P) O O) O)) (N (o391b P) (N (o647c P) (N (o1159z P) O O) O) (N (o903z P) (N (o1415z P) O O) O))) (N (o199b P) (N (o327b P) (N (o583c P) (N (o1095z P) O O) O) (N (o839z P) (N (o1351z P) O O) O)) (N (o455c P) (N (o711c P) (N (o1223z P) O O) O) (N (o967z P) O O)))) (N (o103b P) (N (o167b P) (N (o295b P) (N (o551c P) (N (o1063z P) O O) O) (N (o807c P) (N (o1319z P) O O) O)) (N (o423b P) (N (o679c P) (N (o1191z P) O O) O) (N (o935z P) O O))) (N (o231b P) (N (o359b P) (N (o615c P) (N (o1127z P) O O) O) (N (o871z P) (N (o1383z P) O O) O)) (N (o487c P) (N (o743c P) (N (o1255z P) O O) O) (N (o999z P) O O))))) (N (o55b P) (N (o87b P) (N (o151b P) (N (o279b P) (N (o535c P) (N (o1047z P) O O) O) (N (o791c P) (N (o1303z P) O O) O)) (N (o407b P) (N (o663c P) (N (o1175z P) O O) O) (N (o919z P) (N (o1431z P) O O) O))) (N (o215b P) (N (o343b P) (N (o599c P) (N (o1111z P) O O) O) (N (o855z P) (N (o1367z P) O O) O)) (N (o471c P) (N (o727c P) (N (o1239z P) O O) O) (N (o983z P) O O)))) (N (o119b P) (N (o183b P) (N (o311b P) (N (o567c P) (N (o1079z P) O O) O) (N (o823c P) (N (o1335z P) O O) O)) (N (o439c P) (N (o695c P) (N (o1207z P) O O) O) (N (o951z P) O O))) (N (o247b P) (N (o375b P) (N (o631c P) (N (o1143z P) O O) O) (N (o887z P) (N (o1399z P) O O) O)) (N (o503c P) (N (o759c P) (N (o1271z P) O O) O) (N (o1015z P) O O))))))) (N (o11a P) (N (o19b P) (N (o35b P) (N (o67b P) (N (o131b P) (N (o259b P) (N (o515c P) (N (o1027z P) O O) O) (N (o771c P) (N (o1283z P) O O) O)) (N (o387b P) (N (o643c P) (N (o1155z P) O O) O) (N (o899z P) (N (o1411z P) O O) O))) (N (o195b P) (N (o323b P) (N (o579c P) (N (o1091z P) O O) O) (N (o835z P) (N (o1347z P) O O) O)) (N (o451c P) (N (o707c P) (N (o1219z P) O O) O) (N (o963z P) O O)))) (N (o99b P) (N (o163b P) (N (o291b P) (N (o547c P) (N (o1059z P) O O) O) (N (o803c P) (N (o1315z P) O O) O)) (N (o419b P) (N (o675c P) (N (o1187z P) O O) O) (N (o931z P) O O))) (N (o227b P) (N (o355b P) (N (o611c P) (N (o1123z P) O O) O) (N (o867z P) (N (o1379z P) O O) O)) (N (o483c P) (N (o739c P) (N (o1251z P) O O) O) (N (o995z P) O O))))) (N (o51b P) (N (o83b P) (N (o147b P) (N (o275b P) (N (o531c P) (N (o1043z P) O O) O) (N (o787c P) (N (o1299z P) O O) O)) (N (o403b P) (N (o659c P) (N (o1171z P) O O) O) (N (o915z P) (N (o1427z P) O O) O))) (N (o211b P) (N (o339b P) (N (o595c P) (N (o1107z P) O O) O) (N (o851z P) (N (o1363z P) O O) O)) (N (o467c P) (N (o723c P) (N (o1235z P) O O) O) (N (o979z P) O O)))) (N (o115b P) (N (o179b P) (N (o307b P) (N (o563c P) (N (o1075z P) O O) O) (N (o819c P) (N (o1331z P) O O) O)) (N (o435c P) (N (o691c P) (N (o1203z P) O O) O) (N (o947z P) O O))) (N (o243b P) (N (o371b P) (N (o627c P) (N (o1139z P) O O) O) (N (o883z P) (N (o1395z P) O O) O)) (N (o499c P) (N (o755c P) (N (o1267z P) O O) O) (N (o1011z P) O O)))))) (N (o27b P) (N (o43b P) (N (o75b P) (N (o139b P) (N (o267b P) (N (o523c P) (N (o1035z P) O O) O) (N (o779c P) (N (o1291z P) O O) O)) (N (o395b P) (N (o651c P) (N (o1163z P) O O) O) (N (o907z P) (N (o1419z P) O O) O))) (N (o203b P) (N (o331b P) (N (o587c P) (N (o1099z P) O O) O) (N (o843z P) (N (o1355z P) O O) O)) (N (o459c P) (N (o715c P) (N (o1227z P) O O) O) (N (o971z P) O O)))) (N (o107b P) (N (o171b P) (N (o299b P) (N (o555c P) (N (o1067z P) O O) O) (N (o811c P) (N (o1323z P) O O) O)) (N (o427c P) (N (o683c P) (N (o1195z P) O O) O) (N (o939z P) O O))) (N (o235b P) (N (o363b P) (N (o619c P) (N (o1131z P) O O) O) (N (o875z P) (N (o1387z P) O O) O)) (N (o491c P) (N (o747c P) (N (o1259z P) O O) O) (N (o1003z P) O O))))) (N (o59b P) (N (o91b P) (N (o155b P) (N (o283b P) (N (o539c P) (N (o1051z P) O O) O) (N (o795c P) (N (o1307z P) O O) O)) (N (o411b P) (N (o667c P) (N (o1179z P) O O) O) (N (o923z P) (N (o1435z P) O O) O))) (N (o219b P) (N (o347b P) (N (o603c P) (N (o1115z P) O O) O) (N (o859z P) (N (o1371z P) O O) O)) (N (o475c P) (N (o731c P) (N (o1243z P) O O) O) (N (o987z P) O O)))) (N (o123b P) (N (o187b P) (N (o315b P) (N (o571c P) (N (o1083z P) O O) O) (N (o827c P) (N (o1339z P) O O) O)) (N (o443c P) (N (o699c P) (N (o1211z P) O O) O) (N (o955z P) O O))) (N (o251b P) (N (o379b P) (N (o635c P) (N (o1147z P) O O) O) (N (o891z P) (N (o1403z P) O O) O)) (N (o507c P) (N (o763c P) (N (o1275z P) O O) O) (N (o1019z P) O O)))))))) (N (boot_o_5 P) (N (boot_o_9 P) (N (o17b P) (N (o33b P) (N (o65b P) (N (o129b P) (N (o257b P) (N (o513c P) (N (o1025z P) O O) O) (N (o769c P) (N (o1281z P) O O) O)) (N (o385b P) (N (o641c P) (N (o1153z P) O O) O) (N (o897z P) (N (o1409z P) O O) O))) (N (o193b P) (N (o321b P) (N (o577c P) (N (o1089z P) O O) O) (N (o833c P) (N (o1345z P) O O) O)) (N (o449c P) (N (o705c P) (N (o1217z P) O O) O) (N (o961z P) O O)))) (N (o97b P) (N (o161b P) (N (o289b P) (N (o545c P) (N (o1057z P) O O) O) (N (o801c P) (N (o1313z P) O O) O)) (N (o417b P) (N (o673c P) (N (o1185z P) O O) O) (N (o929z P) (N (o1441z P) O O) O))) (N (o225b P) (N (o353b P) (N (o609c P) (N (o1121z P) O O) O) (N (o865z P) (N (o1377z P) O O) O)) (N (o481c P) (N (o737c P) (N (o1249z P) O O) O) (N (o993z P) O O))))) (N (o49b P) (N (o81b P) (N (o145b P) (N (o273b P) (N (o529c P) (N (o1041z P) O O) O) (N (o785c P) (N (o1297z P) O O) O)) (N (o401b P) (N (o657c P) (N (o1169z P) O O) O) (N (o913z P) (N (o1425z P) O O) O))) (N (o209b P) (N (o337b P) (N (o593c P) (N (o1105z P) O O) O) (N (o849z P) (N (o1361z P) O O) O)) (N (o465c P) (N (o721c P) (N (o1233z P) O O) O) (N (o977z P) O O)))) (N (o113b P) (N (o177b P) (N (o305b P) (N (o561c P) (N (o1073z P) O O) O) (N (o817c P) (N (o1329z P) O O) O)) (N (o433c P) (N (o689c P) (N (o1201z P) O O) O) (N (o945z P) O O))) (N (o241b P) (N (o369b P) (N (o625c P) (N (o1137z P) O O) O) (N (o881z P) (N (o1393z P) O O) O)) (N (o497c P) (N (o753c P) (N (o1265z P) O O) O) (N (o1009z P) O O)))))) (N (o25b P) (N (o41b P) (N (o73b P) (N (o137b P) (N (o265b P) (N (o521c P) (N (o1033z P) O O) O) (N (o777c P) (N (o1289z P) O O) O)) (N (o393b P) (N (o649c P) (N (o1161z P) O O) O) (N (o905z P) (N (o1417z P) O O) O))) (N (o201b P) (N (o329b P) (N (o585c P) (N (o1097z P) O O) O) (N (o841z P) (N (o1353z P) O O) O)) (N (o457c P) (N (o713c P) (N (o1225z P) O O) O) (N (o969z P) O O)))) (N (o105b P) (N (o169b P) (N (o297b P) (N (o553c P) (N (o1065z P) O O) O) (N (o809c P) (N (o1321z P) O O) O)) (N (o425c P) (N (o681c P) (N (o1193z P) O O) O) (N (o937z P) O O))) (N (o233b P) (N (o361b P) (N (o617c P) (N (o1129z P) O O) O) (N (o873z P) (N (o1385z P) O O) O)) (N (o489c P) (N (o745c P) (N (o1257z P) O O) O) (N (o1001z P) O O))))) (N (o57b P) (N (o89b P) (N (o153b P) (N (o281b P) (N (o537c P) (N (o1049z P) O O) O) (N (o793c P) (N (o1305z P) O O) O)) (N (o409b P) (N (o665c P) (N (o1177z P) O O) O) (N (o921z P) (N (o1433z P) O O) O))) (N (o217b P) (N (o345b P) (N (o601c P) (N (o1113z P) O O) O) (N (o857z P) (N (o1369z P) O O) O)) (N (o473c P) (N (o729c P) (N (o1241z P) O O) O) (N (o985z P) O O)))) (N (o121b P) (N (o185b P) (N (o313b P) (N (o569c P) (N (o1081z P) O O) O) (N (o825c P) (N (o1337z P) O O) O)) (N (o441c P) (N (o697c P) (N (o1209z P) O O) O) (N (o953z P) O O))) (N (o249b P) (N (o377b P) (N (o633c P) (N (o1145z P) O O) O) (N (o889z P) (N (o1401z P) O O) O)) (N (o505c P) (N (o761c P) (N (o1273z P) O O) O) (N (o1017z P) O O))))))) (N (o13a P) (N (o21b P) (N (o37b P) (N (o69b P) (N (o133b P) (N (o261b P) (N (o517c P) (N (o1029z P) O O) O) (N (o773c P) (N (o1285z P) O O) O)) (N (o389b P) (N (o645c P) (N (o1157z P) O O) O) (N (o901z P) (N (o1413z P) O O) O))) (N (o197b P) (N (o325b P) (N (o581c P) (N (o1093z P) O O) O) (N (o837z P) (N (o1349z P) O O) O)) (N (o453c P) (N (o709c P) (N (o1221z P) O O) O) (N (o965z P) O O)))) (N (o101b P) (N (o165b P) (N (o293b P) (N (o549c P) (N (o1061z P) O O) O) (N (o805c P) (N (o1317z P) O O) O)) (N (o421b P) (N (o677c P) (N (o1189z P) O O) O) (N (o933z P) O O))) (N (o229b P) (N (o357b P) (N (o613c P) (N (o1125z P) O O) O) (N (o869z P) (N (o1381z P) O O) O)) (N (o485c P) (N (o741c P) (N (o1253z P) O O) O) (N (o997z P) O O))))) (N (o53b P) (N (o85b P) (N (o149b P) (N (o277b P) (N (o533c P) (N (o1045z P) O O) O) (N (o789c P) (N (o1301z P) O O) O)) (N (o405b P) (N (o661c P) (N (o1173z P) O O) O) (N (o917z P) (N (o1429z P) O O) O))) (N (o213b P) (N (o341b P) (N (o597c P) (N (o1109z P) O O) O) (N (o853z P) (N (o1365z P) O O) O)) (N (o469c P) (N (o725c P) (N (o1237z P) O O) O) (N (o981z P) O O)))) (N (o117b P) (N (o181b P) (N (o309b P) (N (o565c P) (N (o1077z P) O O) O) (N (o821c P) (N (o1333z P) O O) O)) (N (o437c P) (N (o693c P) (N (o1205z P) O O) O) (N (o949z P) O O))) (N (o245b P) (N (o373b P) (N (o629c P) (N (o1141z P) O O) O) (N (o885z P) (N (o1397z P) O O) O)) (N (o501c P) (N (o757c P) (N (o1269z P) O O) O) (N (o1013z P) O O)))))) (N (o29b P) (N (o45b P) (N (o77b P) (N (o141b P) (N (o269b P) (N (o525c P) (N (o1037z P) O O) O) (N (o781c P) (N (o1293z P) O O) O)) (N (o397b P) (N (o653c P) (N (o1165z P) O O) O) (N (o909z P) (N (o1421z P) O O) O))) (N (o205b P) (N (o333b P) (N (o589c P) (N (o1101z P) O O) O) (N (o845z P) (N (o1357z P) O O) O)) (N (o461c P) (N (o717c P) (N (o1229z P) O O) O) (N (o973z P) O O)))) (N (o109b P) (N (o173b P) (N (o301b P) (N (o557c P) (N (o1069z P) O O) O) (N (o813c P) (N (o1325z P) O O) O)) (N (o429c P) (N (o685c P) (N (o1197z P) O O) O) (N (o941z P) O O))) (N (o237b P) (N (o365b P) (N (o621c P) (N (o1133z P) O O) O) (N (o877z P) (N (o1389z P) O O) O)) (N (o493c P) (N (o749c P) (N (o1261z P) O O) O) (N (o1005z P) O O))))) (N (o61b P) (N (o93b P) (N (o157b P) (N (o285b P) (N (o541c P) (N (o1053z P) O O) O) (N (o797c P) (N (o1309z P) O O) O)) (N (o413b P) (N (o669c P) (N (o1181z P) O O) O) (N (o925z P) (N (o1437z P) O O) O))) (N (o221b P) (N (o349b P) (N (o605c P) (N (o1117z P) O O) O) (N (o861z P) (N (o1373z P) O O) O)) (N (o477c P) (N (o733c P) (N (o1245z P) O O) O) (N (o989z P) O O)))) (N (o125b P) (N (o189b P) (N (o317b P) (N (o573c P) (N (o1085z P) O O) O) (N (o829c P) (N (o1341z P) O O) O)) (N (o445c P) (N (o701c P) (N (o1213z P) O O) O) (N (o957z P) O O))) (N (o253b P) (N (o381b P) (N (o637c P) (N (o1149z P) O O) O) (N (o893z P) (N (o1405z P) O O) O)) (N (o509c P) (N (o765c P) (N (o1277z P) O O) O) (N (o1021z P) O O))))))))) (N (boot_o_2 P) (N (boot_o_4 P) (N (boot_o_8 P) (N (o16b P) (N (o32b P) (N (o64b P) (N (o128b P) (N (o256b P) (N (o512c P) (N (o1024z P) O O) O) (N (o768c P) (N (o1280z P) O O) O)) (N (o384b P) (N (o640c P) (N (o1152z P) O O) O) (N (o896z P) (N (o1408z P) O O) O))) (N (o192b P) (N (o320b P) (N (o576c P) (N (o1088z P) O O) O) (N (o832c P) (N (o1344z P) O O) O)) (N (o448c P) (N (o704c P) (N (o1216z P) O O) O) (N (o960z P) O O)))) (N (o96b P) (N (o160b P) (N (o288b P) (N (o544c P) (N (o1056z P) O O) O) (N (o800c P) (N (o1312z P) O O) O)) (N (o416b P) (N (o672c P) (N (o1184z P) O O) O) (N (o928z P) (N (o1440z P) O O) O))) (N (o224b P) (N (o352b P) (N (o608c P) (N (o1120z P) O O) O) (N (o864z P) (N (o1376z P) O O) O)) (N (o480c P) (N (o736c P) (N (o1248z P) O O) O) (N (o992z P) O O))))) (N (o48b P) (N (o80b P) (N (o144b P) (N (o272b P) (N (o528c P) (N (o1040z P) O O) O) (N (o784c P) (N (o1296z P) O O) O)) (N (o400b P) (N (o656c P) (N (o1168z P) O O) O) (N (o912z P) (N (o1424z P) O O) O))) (N (o208b P) (N (o336b P) (N (o592c P) (N (o1104z P) O O) O) (N (o848z P) (N (o1360z P) O O) O)) (N (o464c P) (N (o720c P) (N (o1232z P) O O) O) (N (o976z P) O O)))) (N (o112b P) (N (o176b P) (N (o304b P) (N (o560c P) (N (o1072z P) O O) O) (N (o816c P) (N (o1328z P) O O) O)) (N (o432c P) (N (o688c P) (N (o1200z P) O O) O) (N (o944z P) O O))) (N (o240b P) (N (o368b P) (N (o624c P) (N (o1136z P) O O) O) (N (o880z P) (N (o1392z P) O O) O)) (N (o496c P) (N (o752c P) (N (o1264z P) O O) O) (N (o1008z P) O O)))))) (N (o24b P) (N (o40b P) (N (o72b P) (N (o136b P) (N (o264b P) (N (o520c P) (N (o1032z P) O O) O) (N (o776c P) (N (o1288z P) O O) O)) (N (o392b P) (N (o648c P) (N (o1160z P) O O) O) (N (o904z P) (N (o1416z P) O O) O))) (N (o200b P) (N (o328b P) (N (o584c P) (N (o1096z P) O O) O) (N (o840z P) (N (o1352z P) O O) O)) (N (o456c P) (N (o712c P) (N (o1224z P) O O) O) (N (o968z P) O O)))) (N (o104b P) (N (o168b P) (N (o296b P) (N (o552c P) (N (o1064z P) O O) O) (N (o808c P) (N (o1320z P) O O) O)) (N (o424c P) (N (o680c P) (N (o1192z P) O O) O) (N (o936z P) O O))) (N (o232b P) (N (o360b P) (N (o616c P) (N (o1128z P) O O) O) (N (o872z P) (N (o1384z P) O O) O)) (N (o488c P) (N (o744c P) (N (o1256z P) O O) O) (N (o1000z P) O O))))) (N (o56b P) (N (o88b P) (N (o152b P) (N (o280b P) (N (o536c P) (N (o1048z P) O O) O) (N (o792c P) (N (o1304z P) O O) O)) (N (o408b P) (N (o664c P) (N (o1176z P) O O) O) (N (o920z P) (N (o1432z P) O O) O))) (N (o216b P) (N (o344b P) (N (o600c P) (N (o1112z P) O O) O) (N (o856z P) (N (o1368z P) O O) O)) (N (o472c P) (N (o728c P) (N (o1240z P) O O) O) (N (o984z P) O O)))) (N (o120b P) (N (o184b P) (N (o312b P) (N (o568c P) (N (o1080z P) O O) O) (N (o824c P) (N (o1336z P) O O) O)) (N (o440c P) (N (o696c P) (N (o1208z P) O O) O) (N (o952z P) O O))) (N (o248b P) (N (o376b P) (N (o632c P) (N (o1144z P) O O) O) (N (o888z P) (N (o1400z P) O O) O)) (N (o504c P) (N (o760c P) (N (o1272z P) O O) O) (N (o1016z P) O O))))))) (N (o12z P) (N (o20b P) (N (o36b P) (N (o68b P) (N (o132b P) (N (o260b P) (N (o516c P) (N (o1028z P) O O) O) (N (o772c P) (N (o1284z P) O O) O)) (N (o388b P) (N (o644c P) (N (o1156z P) O O) O) (N (o900z P) (N (o1412z P) O O) O))) (N (o196b P) (N (o324b P) (N (o580c P) (N (o1092z P) O O) O) (N (o836z P) (N (o1348z P) O O) O)) (N (o452c P) (N (o708c P) (N (o1220z P) O O) O) (N (o964z P) O O)))) (N (o100b P) (N (o164b P) (N (o292b P) (N (o548c P) (N (o1060z P) O O) O) (N (o804c P) (N (o1316z P) O O) O)) (N (o420b P) (N (o676c P) (N (o1188z P) O O) O) (N (o932z P) O O))) (N (o228b P) (N (o356b P) (N (o612c P) (N (o1124z P) O O) O) (N (o868z P) (N (o1380z P) O O) O)) (N (o484c P) (N (o740c P) (N (o1252z P) O O) O) (N (o996z P) O O))))) (N (o52b P) (N (o84b P) (N (o148b P) (N (o276b P) (N (o532c P) (N (o1044z P) O O) O) (N (o788c P) (N (o1300z P) O O) O)) (N (o404b P) (N (o660c P) (N (o1172z P) O O) O) (N (o916z P) (N (o1428z P) O O) O))) (N (o212b P) (N (o340b P) (N (o596c P) (N (o1108z P) O O) O) (N (o852z P) (N (o1364z P) O O) O)) (N (o468c P) (N (o724c P) (N (o1236z P) O O) O) (N (o980z P) O O)))) (N (o116b P) (N (o180b P) (N (o308b P) (N (o564c P) (N (o1076z P) O O) O) (N (o820c P) (N (o1332z P) O O) O)) (N (o436c P) (N (o692c P) (N (o1204z P) O O) O) (N (o948z P) O O))) (N (o244b P) (N (o372b P) (N (o628c P) (N (o1140z P) O O) O) (N (o884z P) (N (o1396z P) O O) O)) (N (o500c P) (N (o756c P) (N (o1268z P) O O) O) (N (o1012z P) O O)))))) (N (o28b P) (N (o44b P) (N (o76b P) (N (o140b P) (N (o268b P) (N (o524c P) (N (o1036z P) O O) O) (N (o780c P) (N (o1292z P) O O) O)) (N (o396b P) (N (o652c P) (N (o1164z P) O O) O) (N (o908z P) (N (o1420z P) O O) O))) (N (o204b P) (N (o332b P) (N (o588c P) (N (o1100z P) O O) O) (N (o844z P) (N (o1356z P) O O) O)) (N (o460c P) (N (o716c P) (N (o1228z P) O O) O) (N (o972z P) O O)))) (N (o108b P) (N (o172b P) (N (o300b P) (N (o556c P) (N (o1068z P) O O) O) (N (o812c P) (N (o1324z P) O O) O)) (N (o428c P) (N (o684c P) (N (o1196z P) O O) O) (N (o940z P) O O))) (N (o236b P) (N (o364b P) (N (o620c P) (N (o1132z P) O O) O) (N (o876z P) (N (o1388z P) O O) O)) (N (o492c P) (N (o748c P) (N (o1260z P) O O) O) (N (o1004z P) O O))))) (N (o60b P) (N (o92b P) (N (o156b P) (N (o284b P) (N (o540c P) (N (o1052z P) O O) O) (N (o796c P) (N (o1308z P) O O) O)) (N (o412b P) (N (o668c P) (N (o1180z P) O O) O) (N (o924z P) (N (o1436z P) O O) O))) (N (o220b P) (N (o348b P) (N (o604c P) (N (o1116z P) O O) O) (N (o860z P) (N (o1372z P) O O) O)) (N (o476c P) (N (o732c P) (N (o1244z P) O O) O) (N (o988z P) O O)))) (N (o124b P) (N (o188b P) (N (o316b P) (N (o572c P) (N (o1084z P) O O) O) (N (o828c P) (N (o1340z P) O O) O)) (N (o444c P) (N (o700c P) (N (o1212z P) O O) O) (N (o956z P) O O))) (N (o252b P) (N (o380b P) (N (o636c P) (N (o1148z P) O O) O) (N (o892z P) (N (o1404z P) O O) O)) (N (o508c P) (N (o764c P) (N (o1276z P) O O) O) (N (o1020z P) O O)))))))) (N (boot_o_6 P) (N (boot_o_10 P) (N (o18b P) (N (o34b P) (N (o66b P) (N (o130b P) (N (o258b P) (N (o514c P) (N (o1026z P) O O) O) (N (o770c P) (N (o1282z P) O O) O)) (N (o386b P) (N (o642c P) (N (o1154z P) O O) O) (N (o898z P) (N (o1410z P) O O) O))) (N (o194b P) (N (o322b P) (N (o578c P) (N (o1090z P) O O) O) (N (o834c P) (N (o1346z P) O O) O)) (N (o450c P) (N (o706c P) (N (o1218z P) O O) O) (N (o962z P) O O)))) (N (o98b P) (N (o162b P) (N (o290b P) (N (o546c P) (N (o1058z P) O O) O) (N (o802c P) (N (o1314z P) O O) O)) (N (o418b P) (N (o674c P) (N (o1186z P) O O) O) (N (o930z P) (N (o1442z P) O O) O))) (N (o226b P) (N (o354b P) (N (o610c P) (N (o1122z P) O O) O) (N (o866z P) (N (o1378z P) O O) O)) (N (o482c P) (N (o738c P) (N (o1250z P) O O) O) (N (o994z P) O O))))) (N (o50b P) (N (o82b P) (N (o146b P) (N (o274b P) (N (o530c P) (N (o1042z P) O O) O) (N (o786c P) (N (o1298z P) O O) O)) (N (o402b P) (N (o658c P) (N (o1170z P) O O) O) (N (o914z P) (N (o1426z P) O O) O))) (N (o210b P) (N (o338b P) (N (o594c P) (N (o1106z P) O O) O) (N (o850z P) (N (o1362z P) O O) O)) (N (o466c P) (N (o722c P) (N (o1234z P) O O) O) (N (o978z P) O O)))) (N (o114b P) (N (o178b P) (N (o306b P) (N (o562c P) (N (o1074z P) O O) O) (N (o818c P) (N (o1330z P) O O) O)) (N (o434c P) (N (o690c P) (N (o1202z P) O O) O) (N (o946z P) O O))) (N (o242b P) (N (o370b P) (N (o626c P) (N (o1138z P) O O) O) (N (o882z P) (N (o1394z P) O O) O)) (N (o498c P) (N (o754c P) (N (o1266z P) O O) O) (N (o1010z P) O O)))))) (N (o26b P) (N (o42b P) (N (o74b P) (N (o138b P) (N (o266b P) (N (o522c P) (N (o1034z P) O O) O) (N (o778c P) (N (o1290z P) O O) O)) (N (o394b P) (N (o650c P) (N (o1162z P) O O) O) (N (o906z P) (N (o1418z P) O O) O))) (N (o202b P) (N (o330b P) (N (o586c P) (N (o1098z P) O O) O) (N (o842z P) (N (o1354z P) O O) O)) (N (o458c P) (N (o714c P) (N (o1226z P) O O) O) (N (o970z P) O O)))) (N (o106b P) (N (o170b P) (N (o298b P) (N (o554c P) (N (o1066z P) O O) O) (N (o810c P) (N (o1322z P) O O) O)) (N (o426c P) (N (o682c P) (N (o1194z P) O O) O) (N (o938z P) O O))) (N (o234b P) (N (o362b P) (N (o618c P) (N (o1130z P) O O) O) (N (o874z P) (N (o1386z P) O O) O)) (N (o490c P) (N (o746c P) (N (o1258z P) O O) O) (N (o1002z P) O O))))) (N (o58b P) (N (o90b P) (N (o154b P) (N (o282c P) (N (o538c P) (N (o1050z P) O O) O) (N (o794c P) (N (o1306z P) O O) O)) (N (o410b P) (N (o666c P) (N (o1178z P) O O) O) (N (o922z P) (N (o1434z P) O O) O))) (N (o218b P) (N (o346b P) (N (o602c P) (N (o1114z P) O O) O) (N (o858z P) (N (o1370z P) O O) O)) (N (o474c P) (N (o730c P) (N (o1242z P) O O) O) (N (o986z P) O O)))) (N (o122b P) (N (o186b P) (N (o314b P) (N (o570c P) (N (o1082z P) O O) O) (N (o826c P) (N (o1338z P) O O) O)) (N (o442c P) (N (o698c P) (N (o1210z P) O O) O) (N (o954z P) O O))) (N (o250b P) (N (o378b P) (N (o634c P) (N (o1146z P) O O) O) (N (o890z P) (N (o1402z P) O O) O)) (N (o506c P) (N (o762c P) (N (o1274z P) O O) O) (N (o1018z P) O O))))))) (N (o14a P) (N (o22b P) (N (o38b P) (N (o70b P) (N (o134b P) (N (o262b P) (N (o518c P) (N (o1030z P) O O) O) (N (o774c P) (N (o1286z P) O O) O)) (N (o390b P) (N (o646c P) (N (o1158z P) O O) O) (N (o902z P) (N (o1414z P) O O) O))) (N (o198b P) (N (o326b P) (N (o582c P) (N (o1094z P) O O) O) (N (o838z P) (N (o1350z P) O O) O)) (N (o454c P) (N (o710c P) (N (o1222z P) O O) O) (N (o966z P) O O)))) (N (o102b P) (N (o166b P) (N (o294c P) (N (o550c P) (N (o1062z P) O O) O) (N (o806c P) (N (o1318z P) O O) O)) (N (o422b P) (N (o678c P) (N (o1190z P) O O) O) (N (o934z P) O O))) (N (o230b P) (N (o358b P) (N (o614c P) (N (o1126z P) O O) O) (N (o870z P) (N (o1382z P) O O) O)) (N (o486c P) (N (o742c P) (N (o1254z P) O O) O) (N (o998z P) O O))))) (N (o54b P) (N (o86b P) (N (o150b P) (N (o278b P) (N (o534c P) (N (o1046z P) O O) O) (N (o790c P) (N (o1302z P) O O) O)) (N (o406b P) (N (o662c P) (N (o1174z P) O O) O) (N (o918z P) (N (o1430z P) O O) O))) (N (o214b P) (N (o342b P) (N (o598c P) (N (o1110z P) O O) O) (N (o854z P) (N (o1366z P) O O) O)) (N (o470c P) (N (o726c P) (N (o1238z P) O O) O) (N (o982z P) O O)))) (N (o118b P) (N (o182b P) (N (o310b P) (N (o566c P) (N (o1078z P) O O) O) (N (o822c P) (N (o1334z P) O O) O)) (N (o438c P) (N (o694c P) (N (o1206z P) O O) O) (N (o950z P) O O))) (N (o246b P) (N (o374b P) (N (o630c P) (N (o1142z P) O O) O) (N (o886z P) (N (o1398z P) O O) O)) (N (o502c P) (N (o758c P) (N (o1270z P) O O) O) (N (o1014z P) O O)))))) (N (o30b P) (N (o46b P) (N (o78b P) (N (o142b P) (N (o270b P) (N (o526c P) (N (o1038z P) O O) O) (N (o782c P) (N (o1294z P) O O) O)) (N (o398b P) (N (o654c P) (N (o1166z P) O O) O) (N (o910z P) (N (o1422z P) O O) O))) (N (o206b P) (N (o334b P) (N (o590c P) (N (o1102z P) O O) O) (N (o846z P) (N (o1358z P) O O) O)) (N (o462c P) (N (o718c P) (N (o1230z P) O O) O) (N (o974z P) O O)))) (N (o110b P) (N (o174b P) (N (o302b P) (N (o558c P) (N (o1070z P) O O) O) (N (o814c P) (N (o1326z P) O O) O)) (N (o430c P) (N (o686c P) (N (o1198z P) O O) O) (N (o942z P) O O))) (N (o238b P) (N (o366b P) (N (o622c P) (N (o1134z P) O O) O) (N (o878z P) (N (o1390z P) O O) O)) (N (o494c P) (N (o750c P) (N (o1262z P) O O) O) (N (o1006z P) O O))))) (N (o62b P) (N (o94b P) (N (o158b P) (N (o286b P) (N (o542c P) (N (o1054z P) O O) O) (N (o798c P) (N (o1310z P) O O) O)) (N (o414b P) (N (o670c P) (N (o1182z P) O O) O) (N (o926z P) (N (o1438z P) O O) O))) (N (o222b P) (N (o350b P) (N (o606c P) (N (o1118z P) O O) O) (N (o862z P) (N (o1374z P) O O) O)) (N (o478c P) (N (o734c P) (N (o1246z P) O O) O) (N (o990z P) O O)))) (N (o126b P) (N (o190b P) (N (o318b P) (N (o574c P) (N (o1086z P) O O) O) (N (o830c P) (N (o1342z P) O O) O)) (N (o446c P) (N (o702c P) (N (o1214z P) O O) O) (N (o958z P) O O))) (N (o254b P) (N (o382b P) (N (o638c P) (N (o1150z P) O O) O) (N (o894z P) (N (o1406z P) O O) O)) (N (o510c P) (N (o766c P) (N (o1278z P) O O) O) (N (o1022z P) O O))))))))))
def Sy (w : World) (os : OsState) : SharedT := ⟨ty w.params, 1443, (boot_heap w.params).life, #[], boot_drawn, 2216, os⟩
def env0 : Env := { scope := pw.main.scope, locals := mainNs, globals := mainNs, cells := [], code := (R 13), frame := some 14 }
def body0 : List Stmt := behindTheImports pw
def code0 : Code := .body body0 env0
abbrev fr0 : List Frame := [topFrame ⟨0, 0, 0, 0⟩]
abbrev an0 : Option Value := some (.ref 6)
theorem boot_n (w : World) : (boot_heap w.params).objs.size = 11 := by kernel_rfl
theorem boot_a (w : World) : bootAnn w = an0 := by kernel_rfl
theorem pre0 (w : World) (os : OsState) : topGo treeTable pw w 11 an0 12 ⟨boot_heap w.params, #[], boot_drawn, boot_toks, os⟩ (topStub pw) = some ((Sa w os).abs, ⟨denote treeTable code0, code0, ⟨0, 0, 0, 0⟩, fr0⟩) := by kernel_rfl
theorem blk0 (w : World) (os : OsState) : segRun treeTable pw w 11 an0 1 1 (Sa w os).abs (blockOf body0 env0 code0 ⟨0, 0, 0, 0⟩ fr0) = some (.next, (Sa w os).abs, code0, ⟨0, 0, 0, 0⟩) := by kernel_rfl
def lb : List Stmt := (body0.drop 0).take 36
theorem sg_b (w : World) (os : OsState) : sgF (stepQ (denQ tabQ) pw w) 11 an0 4747 (Sa w os) (piecesOf lb env0 code0 ⟨0, 0, 0, 0⟩ fr0) = some (Sb w os, code0, ⟨131, 0, 135, 41⟩) := by kernel_rfl
def lc : List Stmt := (body0.drop 36).take 32
theorem sg_c (w : World) (os : OsState) : sgF (stepQ (denQ tabQ) pw w) 11 an0 4635 (Sb w os) (piecesOf lc env0 code0 ⟨131, 0, 135, 41⟩ fr0) = some (Sc w os, code0, ⟨332, 0, 339, 38⟩) := by kernel_rfl
def lz : List Stmt := (body0.drop 68).take 63
theorem sg_z (w : World) (os : OsState) : sgF (stepQ (denQ tabQ) pw w) 11 an0 3891 (Sc w os) (piecesOf lz env0 code0 ⟨332, 0, 339, 38⟩ fr0) = some (Sz w os, code0, ⟨890, 0, 913, 15⟩) := by kernel_rfl
theorem all_l : body0 = lb ++ (lc ++ (lz ++ ([]))) := by kernel_rfl
theorem fin0 (w : World) (os : OsState) : goF (stepQ (denQ tabQ) pw w) 11 an0 6 (Sz w os) (restOf [] env0 code0 ⟨890, 0, 913, 15⟩ fr0) = some (Sy w os) := by kernel_rfl
theorem look0 (w : World) (os : OsState) : looksF pw (boot_heap w.params) (Sy w os).abs = true := by kernel_rfl
def qv : Program := { pw with main := { pw.main with body := ([0, 2, 3, 4, 5, 6, 7, 8, 9, 11, 12, 13, 14, 15, 16, 17, 18, 19, 21, 22, 23, 24, 25, 26, 27, 28, 29, 30, 31, 32, 33, 34, 35, 36, 37, 38, 39, 40, 41, 42, 43, 44, 45, 46, 47, 48, 49, 51, 52, 53, 54, 55, 56, 57, 58, 59, 61, 62, 63, 64, 65, 66, 67, 68, 69, 70, 71, 72, 75, 76, 77, 78, 79, 80, 81, 82, 83, 84, 85, 87, 88, 89, 90, 91, 92, 93, 94, 96, 97, 98, 99, 100, 102, 103, 104, 105, 106, 107, 108, 109, 110, 111, 112, 113, 114, 115, 116, 117, 118, 119, 120, 121, 122, 123, 124, 125, 126, 127, 128, 129, 130] : List Nat).map tp } }
def looseV : List PySem.Str := [(Z "Part"), (Z "Whole"), (Z "From"), (Z "Newest"), (Z "Oldest"), (Z "Keep"), (Z "KeepOldest"), (Z "KeepNone"), (Z "Put"), (Z "Add"), (Z "Stop"), (Z "If"), (Z "Sure"), (Z "Missed"), (Z "Untold"), (Z "Bare"), (Z "AnySure"), (Z "Holds"), (Z "Not"), (Z "run"), (Z "Chooser")]
def lwV : List PySem.Str := [(Z "Part"), (Z "Whole"), (Z "From"), (Z "Newest"), (Z "Oldest"), (Z "Keep"), (Z "KeepOldest"), (Z "KeepNone"), (Z "Put"), (Z "Add"), (Z "Stop"), (Z "If"), (Z "Sure"), (Z "Missed"), (Z "Untold"), (Z "Bare"), (Z "AnySure"), (Z "Holds"), (Z "Not"), (Z "run"), (Z "Chooser"), (Z "House"), (Z "BARRED"), (Z "MODULI"), (Z "SLOTS")]
def rcV : List DefRec := PySem.W.Fast.tw3399658132070893891 qv
theorem lw_e : looseW qv looseV = lwV := by
  rw [PySem.W.Fast.te821141287760084731]
  kernel_rfl
theorem rc_e : recsOf qv = rcV := congrFun PySem.W.Fast.te3399658132070893891 qv
section
variable {α β γ : Type} {l : List α} {f : β → γ} {nm : α → β} {g : α → γ} {p : α → Bool}
theorem mapR_eq {α β : Type} (f : α → β) : ∀ l : List α, PySem.W.R.mapR f l = l.map f
  | [] => rfl
  | a :: l => congrArg (f a :: ·) (mapR_eq f l)
theorem allR_eq {α : Type} (p : α → Bool) : ∀ l : List α, PySem.W.R.allR l p = l.all p
  | [] => rfl
  | a :: l => by
    show @Bool.rec (fun _ => Bool) false (PySem.W.R.allR l p) (p a) = _
    rw [allR_eq p l, List.all_cons]
    cases p a <;> rfl
theorem map_cut (a n : Nat) (h1 : PySem.W.R.mapR f (PySem.W.R.mapR nm ((l.drop a).take n)) = ((l.drop a).take n).map g) (h2 : PySem.W.R.mapR f (PySem.W.R.mapR nm (l.drop (a + n))) = (l.drop (a + n)).map g) : PySem.W.R.mapR f (PySem.W.R.mapR nm (l.drop a)) = (l.drop a).map g := by
  rw [mapR_eq, mapR_eq, List.map_map] at *
  rw [← List.take_append_drop n (l.drop a), List.map_append, List.map_append, h1, List.drop_drop, h2]
theorem all_cut (a n : Nat) (h1 : PySem.W.R.allR ((l.drop a).take n) p = true) (h2 : PySem.W.R.allR (l.drop (a + n)) p = true) : PySem.W.R.allR (l.drop a) p = true := by
  rw [allR_eq] at *
  rw [← List.take_append_drop n (l.drop a), List.all_append, h1, List.drop_drop, h2]
  rfl
end
theorem good_parts {q : Program} {loose mods lw : List PySem.Str} {rc : List DefRec} {Xt : Shared → Bool} {s : Shared} (hl : looseW q loose = lw) (hr : recsOf q = rc)
    (h01 : PySem.W.R.mapR (PySem.W.Fast.tw2020367076256383516 s.heap mainGlobals) (PySem.W.R.mapR (fun x => x.name) rc) = rc.map fun d => some d.shape)
    (h02 : (PySem.W.R.allR (PySem.W.Fast.tw5991557255702980513 q) fun o => PySem.W.Fast.tw2817317335113233408 s.heap o.name o.chain o.bm o.newId && PySem.W.Fast.tw16017708745293785899 s.heap o.name) = true)
    (h03 : s.heap.isNs mainGlobals = true) (h04 : s.heap.isNs builtinsNs = true) (h05 : (PySem.W.Fast.tw15623941606353435126 s.heap && PySem.W.Fast.tw912232860611745870 s.heap) = true) (h1 : s.heap.bltView = bltViewBooted)
    (h2a : PySem.W.Fast.tw10880121769531294198 s.heap lw (PySem.W.R.mapR (fun x => x.name) rc) (PySem.W.R.mapR (fun x => x.fst) (PySem.W.Fast.tw7409074990110511671 q)) (PySem.W.R.mapR (fun x => x.name) (PySem.W.Fast.tw13664370479719496447 q lw)) = true)
    (h2b : PySem.W.Fast.tw14722251495701143533 s.heap mods = true) (h2e : PySem.W.Fast.tw10994771534591457954 q s.heap = true) (hX : Xt s = true) (hg : (s.gens.size == 0) = true)
    (h3a : PySem.W.R.allR rc (fun d => PySem.W.Fast.tw5930804224584009831 s.heap d.name) = true) (h3b : PySem.W.Fast.tw5244371056499926238 s.heap = true) (h3c : PySem.W.Fast.tw2578726214315757710 q s.heap = true) (h3d : (!PySem.W.Fast.tw2458874890965802552 q || PySem.W.Fast.tw9649274521512697073 s.heap) = true)
    (h4 : PySem.W.Fast.tw16090120013241838585 q (PySem.W.Fast.tw3247288618530077131 q) s = pinGoodD (drecsOf q))
    (h5 : PySem.W.Fast.tw2386780881361962483 q lw s = (PySem.W.Fast.tw210736558901404530 q lw).map fun c => some c.withCmp.plainShape)
    (h6 : PySem.W.Fast.tw11698064438423848299 q loose s = plainGoodD q loose) (h7 : PySem.W.Fast.tw7317090234206586261 q s = wideGood q) (h8 : PySem.W.Fast.tw7369524293546568484 q loose s = clsGoodW q loose) : seenQ q loose mods Xt s = openGood q loose := by
  subst hl hr
  have e1 : looseW q loose = PySem.W.Fast.tw821141287760084731 q loose := congrFun (congrFun PySem.W.Fast.te821141287760084731 q) loose
  have e2 : recsOf q = PySem.W.Fast.tw3399658132070893891 q := congrFun PySem.W.Fast.te3399658132070893891 q
  have e5 : plainGoodE q (looseW q loose) = (PySem.W.Fast.tw210736558901404530 q (looseW q loose)).map fun c => some c.withCmp.plainShape := by
    show (plainsOf q (looseW q loose)).map _ = _
    rw [PySem.W.Fast.te210736558901404530]
  refine Prod.ext ?_ (Prod.ext h1 (Prod.ext ?_ (Prod.ext ?_ (Prod.ext h4 (Prod.ext ?_ (Prod.ext h6 (Prod.ext h7 h8)))))))
  · show Seen.mk (PySem.W.R.mapR (PySem.W.Fast.tw2020367076256383516 s.heap mainGlobals) (PySem.W.R.mapR (fun x => x.name) (PySem.W.Fast.tw3399658132070893891 q))) (PySem.W.R.allR (PySem.W.Fast.tw5991557255702980513 q) fun o => PySem.W.Fast.tw2817317335113233408 s.heap o.name o.chain o.bm o.newId && PySem.W.Fast.tw16017708745293785899 s.heap o.name) [] (s.heap.isNs mainGlobals) (s.heap.isNs builtinsNs) (PySem.W.Fast.tw15623941606353435126 s.heap && PySem.W.Fast.tw912232860611745870 s.heap) 0 = ⟨(recsOf q).map fun d => some d.shape, true, [], true, true, true, 0⟩
    rw [← e2, h01, h02, h03, h04, h05]
  · show (PySem.W.Fast.tw10880121769531294198 s.heap (PySem.W.Fast.tw821141287760084731 q loose) (PySem.W.R.mapR (fun x => x.name) (PySem.W.Fast.tw3399658132070893891 q)) (PySem.W.R.mapR (fun x => x.fst) (PySem.W.Fast.tw7409074990110511671 q)) (PySem.W.R.mapR (fun x => x.name) (PySem.W.Fast.tw13664370479719496447 q (PySem.W.Fast.tw821141287760084731 q loose))) && PySem.W.Fast.tw14722251495701143533 s.heap mods && s.heap.isNs mainGlobals && s.heap.isNs builtinsNs && PySem.W.Fast.tw10994771534591457954 q s.heap && Xt s && (s.gens.size == 0)) = true
    rw [← e1, ← e2, h2a, h2b, h03, h04, h2e, hX, hg]
    rfl
  · show ((PySem.W.R.allR (PySem.W.Fast.tw3399658132070893891 q) fun d => PySem.W.Fast.tw5930804224584009831 s.heap d.name) && PySem.W.Fast.tw5244371056499926238 s.heap && PySem.W.Fast.tw2578726214315757710 q s.heap && (!PySem.W.Fast.tw2458874890965802552 q || PySem.W.Fast.tw9649274521512697073 s.heap)) = true
    rw [← e2, h3a, h3b, h3c, h3d]
    rfl
  · refine Eq.trans ?_ e5.symm
    rw [e1] at h5 ⊢
    exact h5
theorem c0_0 (w : World) (os : OsState) : PySem.W.R.mapR (PySem.W.Fast.tw2020367076256383516 (Sy w os).abs.heap mainGlobals) (PySem.W.R.mapR (fun x => x.name) ((rcV.drop 0).take 9)) = ((rcV.drop 0).take 9).map fun d => some d.shape := by kernel_rfl
theorem c3_0 (w : World) (os : OsState) : PySem.W.R.allR ((rcV.drop 0).take 9) (fun d => PySem.W.Fast.tw5930804224584009831 (Sy w os).abs.heap d.name) = true := by kernel_rfl
theorem c0_1 (w : World) (os : OsState) : PySem.W.R.mapR (PySem.W.Fast.tw2020367076256383516 (Sy w os).abs.heap mainGlobals) (PySem.W.R.mapR (fun x => x.name) ((rcV.drop 9).take 9)) = ((rcV.drop 9).take 9).map fun d => some d.shape := by kernel_rfl
theorem c3_1 (w : World) (os : OsState) : PySem.W.R.allR ((rcV.drop 9).take 9) (fun d => PySem.W.Fast.tw5930804224584009831 (Sy w os).abs.heap d.name) = true := by kernel_rfl
theorem c0_2 (w : World) (os : OsState) : PySem.W.R.mapR (PySem.W.Fast.tw2020367076256383516 (Sy w os).abs.heap mainGlobals) (PySem.W.R.mapR (fun x => x.name) ((rcV.drop 18).take 9)) = ((rcV.drop 18).take 9).map fun d => some d.shape := by kernel_rfl
theorem c3_2 (w : World) (os : OsState) : PySem.W.R.allR ((rcV.drop 18).take 9) (fun d => PySem.W.Fast.tw5930804224584009831 (Sy w os).abs.heap d.name) = true := by kernel_rfl
theorem c0_3 (w : World) (os : OsState) : PySem.W.R.mapR (PySem.W.Fast.tw2020367076256383516 (Sy w os).abs.heap mainGlobals) (PySem.W.R.mapR (fun x => x.name) ((rcV.drop 27).take 9)) = ((rcV.drop 27).take 9).map fun d => some d.shape := by kernel_rfl
theorem c3_3 (w : World) (os : OsState) : PySem.W.R.allR ((rcV.drop 27).take 9) (fun d => PySem.W.Fast.tw5930804224584009831 (Sy w os).abs.heap d.name) = true := by kernel_rfl
theorem c0_4 (w : World) (os : OsState) : PySem.W.R.mapR (PySem.W.Fast.tw2020367076256383516 (Sy w os).abs.heap mainGlobals) (PySem.W.R.mapR (fun x => x.name) ((rcV.drop 36).take 9)) = ((rcV.drop 36).take 9).map fun d => some d.shape := by kernel_rfl
theorem c3_4 (w : World) (os : OsState) : PySem.W.R.allR ((rcV.drop 36).take 9) (fun d => PySem.W.Fast.tw5930804224584009831 (Sy w os).abs.heap d.name) = true := by kernel_rfl
theorem c0_5 (w : World) (os : OsState) : PySem.W.R.mapR (PySem.W.Fast.tw2020367076256383516 (Sy w os).abs.heap mainGlobals) (PySem.W.R.mapR (fun x => x.name) ((rcV.drop 45).take 9)) = ((rcV.drop 45).take 9).map fun d => some d.shape := by kernel_rfl
theorem c3_5 (w : World) (os : OsState) : PySem.W.R.allR ((rcV.drop 45).take 9) (fun d => PySem.W.Fast.tw5930804224584009831 (Sy w os).abs.heap d.name) = true := by kernel_rfl
theorem c0_6 (w : World) (os : OsState) : PySem.W.R.mapR (PySem.W.Fast.tw2020367076256383516 (Sy w os).abs.heap mainGlobals) (PySem.W.R.mapR (fun x => x.name) ((rcV.drop 54).take 9)) = ((rcV.drop 54).take 9).map fun d => some d.shape := by kernel_rfl
theorem c3_6 (w : World) (os : OsState) : PySem.W.R.allR ((rcV.drop 54).take 9) (fun d => PySem.W.Fast.tw5930804224584009831 (Sy w os).abs.heap d.name) = true := by kernel_rfl
theorem c0_7 (w : World) (os : OsState) : PySem.W.R.mapR (PySem.W.Fast.tw2020367076256383516 (Sy w os).abs.heap mainGlobals) (PySem.W.R.mapR (fun x => x.name) (rcV.drop 63)) = (rcV.drop 63).map fun d => some d.shape := by kernel_rfl
theorem c3_7 (w : World) (os : OsState) : PySem.W.R.allR (rcV.drop 63) (fun d => PySem.W.Fast.tw5930804224584009831 (Sy w os).abs.heap d.name) = true := by kernel_rfl
theorem c02 (w : World) (os : OsState) : (PySem.W.R.allR (PySem.W.Fast.tw5991557255702980513 qv) fun o => PySem.W.Fast.tw2817317335113233408 (Sy w os).abs.heap o.name o.chain o.bm o.newId && PySem.W.Fast.tw16017708745293785899 (Sy w os).abs.heap o.name) = true := by kernel_rfl
theorem c03 (w : World) (os : OsState) : (Sy w os).abs.heap.isNs mainGlobals = true := by kernel_rfl
theorem c04 (w : World) (os : OsState) : (Sy w os).abs.heap.isNs builtinsNs = true := by kernel_rfl
theorem c05 (w : World) (os : OsState) : (PySem.W.Fast.tw15623941606353435126 (Sy w os).abs.heap && PySem.W.Fast.tw912232860611745870 (Sy w os).abs.heap) = true := by kernel_rfl
theorem c1 (w : World) (os : OsState) : (Sy w os).abs.heap.bltView = bltViewBooted := by kernel_rfl
theorem c2a (w : World) (os : OsState) : PySem.W.Fast.tw10880121769531294198 (Sy w os).abs.heap lwV (PySem.W.R.mapR (fun x => x.name) rcV) (PySem.W.R.mapR (fun x => x.fst) (PySem.W.Fast.tw7409074990110511671 qv)) (PySem.W.R.mapR (fun x => x.name) (PySem.W.Fast.tw13664370479719496447 qv lwV)) = true := by kernel_rfl
theorem c2b (w : World) (os : OsState) : PySem.W.Fast.tw14722251495701143533 (Sy w os).abs.heap (importedModules pw.main.body) = true := by kernel_rfl
theorem c2e (w : World) (os : OsState) : PySem.W.Fast.tw10994771534591457954 qv (Sy w os).abs.heap = true := by kernel_rfl
theorem c2g (w : World) (os : OsState) : ((Sy w os).abs.gens.size == 0) = true := by kernel_rfl
theorem c3b (w : World) (os : OsState) : PySem.W.Fast.tw5244371056499926238 (Sy w os).abs.heap = true := by kernel_rfl
theorem c3c (w : World) (os : OsState) : PySem.W.Fast.tw2578726214315757710 qv (Sy w os).abs.heap = true := by kernel_rfl
theorem c3d (w : World) (os : OsState) : (!PySem.W.Fast.tw2458874890965802552 qv || PySem.W.Fast.tw9649274521512697073 (Sy w os).abs.heap) = true := by kernel_rfl
theorem c4 (w : World) (os : OsState) : PySem.W.Fast.tw16090120013241838585 qv (PySem.W.Fast.tw3247288618530077131 qv) (Sy w os).abs = pinGoodD (drecsOf qv) := by kernel_rfl
theorem c5 (w : World) (os : OsState) : PySem.W.Fast.tw2386780881361962483 qv lwV (Sy w os).abs = (PySem.W.Fast.tw210736558901404530 qv lwV).map fun c => some c.withCmp.plainShape := by kernel_rfl
theorem c6 (w : World) (os : OsState) : PySem.W.Fast.tw11698064438423848299 qv looseV (Sy w os).abs = plainGoodD qv looseV := by kernel_rfl
theorem c7 (w : World) (os : OsState) : PySem.W.Fast.tw7317090234206586261 qv (Sy w os).abs = wideGood qv := by kernel_rfl
theorem c8 (w : World) (os : OsState) : PySem.W.Fast.tw7369524293546568484 qv looseV (Sy w os).abs = clsGoodW qv looseV := by kernel_rfl
theorem good_now (w : World) (os : OsState) {Xt : Shared → Bool} (hX : Xt (Sy w os).abs = true) : seenQ qv looseV (importedModules pw.main.body) Xt (Sy w os).abs = openGood qv looseV :=
  good_parts lw_e rc_e (map_cut 0 9 (c0_0 w os) (map_cut 9 9 (c0_1 w os) (map_cut 18 9 (c0_2 w os) (map_cut 27 9 (c0_3 w os) (map_cut 36 9 (c0_4 w os) (map_cut 45 9 (c0_5 w os) (map_cut 54 9 (c0_6 w os) (c0_7 w os)))))))) (c02 w os) (c03 w os) (c04 w os) (c05 w os) (c1 w os) (c2a w os) (c2b w os) (c2e w os) hX (c2g w os) (all_cut 0 9 (c3_0 w os) (all_cut 9 9 (c3_1 w os) (all_cut 18 9 (c3_2 w os) (all_cut 27 9 (c3_3 w os) (all_cut 36 9 (c3_4 w os) (all_cut 45 9 (c3_5 w os) (all_cut 54 9 (c3_6 w os) (c3_7 w os)))))))) (c3b w os) (c3c w os) (c3d w os) (c4 w os) (c5 w os) (c6 w os) (c7 w os) (c8 w os)
theorem run0 (w : World) (os : OsState) : topRun treeTable pw w 11 an0 (12 + (1 + (4747 + (4635 + (3891 + (6)))))) ⟨boot_heap w.params, #[], boot_drawn, boot_toks, os⟩ (topStub pw) = some (Sy w os).abs := by
  have z := go_put (fin0 w os)
  replace z := sg_put (sg_z w os) z
  replace z := sg_put (sg_c w os) z
  replace z := sg_put (sg_b w os) z
  rw [← all_l] at z
  exact go_top (pre0 w os) (piece_block (blk0 w os) z)
theorem left_now {q : Program} {loose : List PySem.Str} {Xt : Shared → Bool} {K : Params → Frag} {as : List Addr} {ek : ∀ P, as = (K P).map (·.1)} {M : Nat} (hM : Nat.ble 600 M = true) (le : Nat.ble (12 + (1 + (4747 + (4635 + (3891 + (6)))))) M = true)
    (eq : q = qv) (el : loose = looseV) (h2 : ∀ (w : World) (os : OsState), Xt (Sy w os).abs = true)
    (h3 : ∀ (w : World) (os : OsState), as.map (getT (Sy w os)) = (K w.params).map fun x => some x.2) (_triv : ∀ (_ : World) (_ : OsState), True = True) :
    LeftO pw q loose Xt (Hook.obs (kHook K as ek)) (Hook.val (kHook K as ek)) M true := by
  refine left_any (by kernel_rfl) hM (fun s => by kernel_rfl) fun w os => ⟨(Sy w os).abs, ?_, look0 w os, (seenQ_eq _ _ _ _ _).trans ?_, ?_⟩
  · rw [boot_n, boot_a]
    obtain ⟨k, rfl⟩ : ∃ k, M = (12 + (1 + (4747 + (4635 + (3891 + (6)))))) + k := ⟨M - (12 + (1 + (4747 + (4635 + (3891 + (6)))))), by have := Nat.le_of_ble_eq_true le; omega⟩
    exact topRun_mono k _ _ _ _ (run0 w os)
  · replace h2 := h2 w os
    subst eq el
    exact good_now w os h2
  · refine Eq.trans ?_ (h3 w os)
    exact (List.map_congr_left fun a _ => getT_eq _ a).symm
end
end Sg
end L2
section
local macro_rules
  | `(tactic| refine $e) => do
    if (e.raw.find? fun s => s.isIdent && s.getId.eraseMacroScopes == `HeadRun.left_oneK).isSome then `(tactic| refine L2.Sg.left_now (by rfl) (by rfl) (by kernel_rfl) (by kernel_rfl) (by intro w os; kernel_rfl) (by intro w os; kernel_rfl) ?_) else Lean.Macro.throwUnsupported
local macro_rules
  | `(tactic| k_head) => `(tactic| k_headL)
set_option maxRecDepth 100000 in
set_option maxHeartbeats 0 in
open_top L2.Sg.head for PySem.Challenge.rw_heldground_k23_histories_compared
end
end

end
section
set_option Elab.async false
set_option linter.all false
set_option maxRecDepth 100000
set_option maxHeartbeats 4000000
/-! Own errors of the package: the base's `__init__` called by the class's name, an error without arguments, an error with one field. -/
namespace L2
namespace Hg
open PySem PySem.Spec PyProof.Rows

/-- the base class at G has ValueError's own `__init__` -/
structure BaseInit (K : PySem.W.Frag) (G : Addr) : Prop where
  sp : PySem.W.specialIn K (.ref G) "__getattribute__" = some (some (.builtin "type.__getattribute__"))
  rd : PySem.W.readsIn K G (.type "type") = true
  fc : PySem.W.findCls K (.ref G) (.type "type") "__init__" = some (.val (.builtin "ValueError.__init__"))

section
variable {X : Cx} {e : Expr} {es : List Expr} {ta : TA} {p p1 p2 pos : Pos} {G C fI : Addr} {g x : Str}
end

/-! ### promises of the errors' `__init__` -/
section
variable {K : PySem.W.Frag} {C : Addr} {f : Str} {σ : St} {H : Hp} {Q : XK}
end
end Hg
end L2
end

section
set_option Elab.async false
set_option linter.all false
set_option maxRecDepth 100000
set_option maxHeartbeats 4000000
/-! Promises that hold where no repr is under way (guards empty), and repr of data. -/
namespace L2
namespace Hg
open PySem PySem.Spec PyProof.Rows

/-- a def's promise, asked where no guard is set -/
structure FnG (P : Program) (w : World) (K : PySem.W.Frag) (mg : Str → Option Value) (base : Heap) (CX : CXT) (k : Nat) (f : Addr) (fd : FuncData) (ps : List Str) (sp : Sp) : Prop where
  len : ∀ vs H Q E, sp vs H Q E → vs.length = ps.length
  run : ∀ (A : Around) (outer : List Env) (s : Shared) (H : Hp) (args : Args) (us : List Value) (vs : List V) (Q : VK) (E : XK),
    A.guards = some [] → Room k A → Env0 P w K mg base A outer s H → BindsTo s fd args (ps.zip us) → Vals vs us → sp vs H Q E →
    codeAny (model P w) A (.call (.ref f) args) (CR CX outer P w H s Q E) s

section
variable {P : Program} {w : World} {K : PySem.W.Frag} {mg : Str → Option Value} {base : Heap} {CX : CXT} {j k : Nat} {f : Addr} {fd : FuncData} {ps : List Str} {sp : Sp}
theorem _root_.L2.FnOk.g (F : FnOk P w K mg base CX k f fd ps sp) : FnG P w K mg base CX k f fd ps sp :=
  ⟨F.len, fun A outer s H args us vs Q E _ => F.run A outer s H args us vs Q E⟩

end

section
variable {X : Cx} {CX : CXT} {k : Nat} {f C : Addr} {fd : FuncData} {ps : List Str} {sp : Sp} {dvs : List V} {ds : List Value} {E : XK} {x m : Str} {p pos apos : Pos} {e o : Expr} {es : List Expr} {ta : TE} {t : TA}
/-- repr of data -/
def rRepr (K : PySem.W.Frag) : List V → Hp → VK → Prop := fun vs H Q => ∃ x d, vs = [x] ∧ Dp K H x d ∧ d.showable = true ∧ d.hasDict = false ∧ d.depth ≤ 60 ∧ d.shown.length ≤ sizeLine ∧ Q (.str d.shown) H
end
end Hg
end L2
end

section
set_option Elab.async false
set_option linter.all false
set_option maxRecDepth 100000
set_option maxHeartbeats 4000000
/-! One rule an operator, for all the kinds that the package uses; readings in steps. -/
namespace L2
namespace Hg
open PySem PySem.Spec PyProof.Rows

/-! ### operators by values -/
def uAddI : R2 := rI0 fun i j => .int (i + j)
def uAddS : R2 := fun x y H Q => ∃ i j, x = .str i ∧ y = .str j ∧ i.length + j.length ≤ sizeLine ∧ Q (.str (i ++ j)) H
def uAdd (K : PySem.W.Frag) : R2 := fun x y H Q => uAddI x y H Q ∨ uAddS x y H Q ∨ rCat x y H Q ∨ rCatT K x y H Q
def uSub : R2 := rI0 fun i j => .int (i - j)
def uMul : R2 := fun x y H Q => rI CMul (fun i j => .int (i * j)) x y H Q ∨ rI CMulW (fun i j => .int (i * j)) x y H Q ∨ rRep x y H Q
def uMod : R2 := rI (fun _ j => 0 < j) fun i j => .int (i % j)
def uPow : R2 := rI CPow fun i j => .int (i ^ j.toNat)
def uLt : R2 := rI0 fun i j => .bl (decide (i < j))
def uLe : R2 := rI0 fun i j => .bl (decide (i ≤ j))
def uGt : R2 := rI0 fun i j => .bl (decide (j < i))
def uGe : R2 := rI0 fun i j => .bl (decide (j ≤ i))
section
variable {X : Cx}
end

/-! ### calls of built-ins by values -/
def uLen (K : PySem.W.Frag) : List V → Hp → VK → Prop := fun xs H Q => (∃ x n, xs = [x] ∧ LenV K x H n ∧ Q (.int n) H) ∨ ∃ a kvs, xs = [V.ref a] ∧ H a = some (.dK kvs) ∧ Q (.int kvs.length) H
def uAbs : List V → Hp → VK → Prop := fun xs H Q => ∃ i, xs = [.int i] ∧ Q (.int (if i < 0 then -i else i)) H
def uMin2 : List V → Hp → VK → Prop := fun xs H Q => ∃ i j, xs = [.int i, .int j] ∧ Q (.int (if j < i then j else i)) H
def uMax2 : List V → Hp → VK → Prop := fun xs H Q => ∃ i j, xs = [.int i, .int j] ∧ Q (.int (if j > i then j else i)) H
def uInt : List V → Hp → VK → Prop := fun xs H Q => ((∃ i, xs = [.int i] ∧ Q (.int i) H) ∨ ∃ k, xs = [.bl k] ∧ Q (.int (if k then 1 else 0)) H) ∨ ∃ a n, xs = [.str a] ∧ PySem.intText? a = some n ∧ a.length ≤ 640 ∧ Q (.int n) H
section
variable {X : Cx}
end

/-! ### names of the module -/
section
variable {X : Cx} {x : Str} {pos : Pos}
end

/-! ### the written part by its name -/
section
variable {X : Cx} {a : Expr} {ta : TE} {K : PySem.W.Frag}
def tTr (K : PySem.W.Frag) (ta : TE) : TT := fun σ H Q => ta σ H fun x H' => ∃ k, TruV K x H' k ∧ Q k H'
end

section
variable {X : Cx} {tg e : Expr} {t : TE}
end
/-! ### errors that pass -/
section
variable {X : Cx}
variable {CX : CXT} {k : Nat} {f C : Addr} {fd : FuncData} {ps : List Str} {sp : Sp} {dvs : List V} {ds : List Value} {E : St → XK} {x m : Str} {p pos apos : Pos} {e o : Expr} {es : List Expr} {ta : TE} {t : TA}
/-- C(..) where what is raised is wished at the slots -/
def tMakeS (C : Addr) (sp : Sp) (dvs : List V) (E : St → XK) (t : TA) : TE := fun σ H Q => t σ H fun vs H1 => ∀ x dx, H1 x = none → H1 dx = none → dx ≠ x →
  sp (.ref x :: (vs ++ dvs)) (upd (upd H1 dx (.own x)) x (.ins C dx [])) (fun v H2 => v = .non ∧ Q (.ref x) H2) (E σ)
end
end Hg
end L2
end

section
set_option Elab.async false
set_option linter.all false
set_option maxRecDepth 100000
set_option maxHeartbeats 4000000
/-! Readings, one step each (each is a reading's own definition, turned into a rule to be applied backwards). -/
namespace L2
namespace Hg
open PySem PySem.Spec PyProof.Rows
section
variable {K : PySem.W.Frag} {σ : St} {H : Hp} {Q : VK} {QB : Bool → Hp → Prop} {QL : List V → Hp → Prop} {QS : St → Hp → Prop} {D : Ends} {v x y : V} {i j : Nat} {ta tb tc te : TE} {t u : TT} {tl tr : TA} {ts t1 t2 : TS}
theorem sz {n : Nat} (h : n ≤ 100000) : n ≤ sizeLine := Nat.le_trans h (by decide)
theorem at_upd {p q : Addr} {o u : HO} (n : q ≠ p) (h : H q = some o) : upd H p u q = some o := (upd_ne n).trans h
theorem free_upd {p q : Addr} {o : HO} (h : upd H p o q = none) : H q = none ∧ q ≠ p := by
  by_cases e : q = p
  · subst e; rw [upd_same] at h; cases h
  · exact ⟨(upd_ne e).symm.trans h, e⟩
/-! ### expressions -/
/-- the one rule for a goal, found by its head -/
class Ru (g : Prop) (p : outParam Prop) : Prop where
  go : p → g
theorem r_ru {g p : Prop} [i : Ru g p] (h : p) : g := i.go h
/-- goals whose rule has a side to be shown -/
class Rs (g : Prop) : Prop where
  go : True
theorem r_slow {g : Prop} [Rs g] (h : g) : g := h
theorem r_var (h : σ[i]? = some (some v)) (k : Q v H) : tVar i σ H Q := ⟨v, h, k⟩
instance rs_var : Rs (tVar i σ H Q) := ⟨trivial⟩
theorem r_c (k : Q v H) : tC v σ H Q := k
instance ru_c  : Ru (tC v σ H Q) (Q v H) := ⟨r_c⟩
theorem r_op {r : R2} (k : ta σ H fun x H1 => tb σ H1 fun y H2 => r x y H2 Q) : tOp r ta tb σ H Q := k
instance ru_op {r : R2} : Ru (tOp r ta tb σ H Q) (ta σ H fun x H1 => tb σ H1 fun y H2 => r x y H2 Q) := ⟨r_op⟩
theorem r_un {r : V → Hp → VK → Prop} (k : ta σ H fun x H1 => r x H1 Q) : tUn r ta σ H Q := k
instance ru_un {r : V → Hp → VK → Prop} : Ru (tUn r ta σ H Q) (ta σ H fun x H1 => r x H1 Q) := ⟨r_un⟩
theorem r_neg {a : Int} (k : Q (.int (-a)) H) : (rU fun i => .int (-i)) (.int a) H Q := ⟨a, rfl, k⟩
instance ru_neg {a : Int} : Ru ((rU fun i => .int (-i)) (.int a) H Q) (Q (.int (-a)) H) := ⟨r_neg⟩
theorem r_cb {r : List V → Hp → VK → Prop} (k : tl σ H fun vs H1 => r vs H1 Q) : tCB r tl σ H Q := k
instance ru_cb {r : List V → Hp → VK → Prop} : Ru (tCB r tl σ H Q) (tl σ H fun vs H1 => r vs H1 Q) := ⟨r_cb⟩
theorem r_nil (k : QL [] H) : tNil σ H QL := k
instance ru_nil  : Ru (tNil σ H QL) (QL [] H) := ⟨r_nil⟩
theorem r_cons (k : ta σ H fun x H1 => tr σ H1 fun xs H2 => QL (x :: xs) H2) : tCons ta tr σ H QL := k
instance ru_cons  : Ru (tCons ta tr σ H QL) (ta σ H fun x H1 => tr σ H1 fun xs H2 => QL (x :: xs) H2) := ⟨r_cons⟩
theorem r_call {sp : Sp} {dvs : List V} {E : XK} (k : tl σ H fun vs H1 => sp (vs ++ dvs) H1 Q E) : tCall sp dvs E tl σ H Q := k
instance ru_call {sp : Sp} {dvs : List V} {E : XK} : Ru (tCall sp dvs E tl σ H Q) (tl σ H fun vs H1 => sp (vs ++ dvs) H1 Q E) := ⟨r_call⟩
theorem r_callS {sp : Sp} {E : St → XK} (k : tl σ H fun vs H1 => sp vs H1 Q (E σ)) : tCallS sp E tl σ H Q := k
instance ru_callS {sp : Sp} {E : St → XK} : Ru (tCallS sp E tl σ H Q) (tl σ H fun vs H1 => sp vs H1 Q (E σ)) := ⟨r_callS⟩
theorem r_tup (k : tl σ H fun xs H1 => xs.length ≤ sizeLine ∧ ∀ p, H1 p = none → Q (.ref p) (upd H1 p (.tup xs))) : tTup tl σ H Q := k
instance ru_tup  : Ru (tTup tl σ H Q) (tl σ H fun xs H1 => xs.length ≤ sizeLine ∧ ∀ p, H1 p = none → Q (.ref p) (upd H1 p (.tup xs))) := ⟨r_tup⟩
theorem r_lst (k : tl σ H fun xs H1 => xs.length ≤ sizeLine ∧ ∀ p, H1 p = none → Q (.ref p) (upd H1 p (.lst xs))) : tLst tl σ H Q := k
instance ru_lst  : Ru (tLst tl σ H Q) (tl σ H fun xs H1 => xs.length ≤ sizeLine ∧ ∀ p, H1 p = none → Q (.ref p) (upd H1 p (.lst xs))) := ⟨r_lst⟩
theorem r_if (k : t σ H fun c H1 => if c = true then ta σ H1 Q else tb σ H1 Q) : tIf t ta tb σ H Q := k
instance ru_if  : Ru (tIf t ta tb σ H Q) (t σ H fun c H1 => if c = true then ta σ H1 Q else tb σ H1 Q) := ⟨r_if⟩
theorem r_test (k : te σ H fun x H' => ∃ c, x = .bl c ∧ QB c H') : tTest te σ H QB := k
instance ru_test  : Ru (tTest te σ H QB) (te σ H fun x H' => ∃ c, x = .bl c ∧ QB c H') := ⟨r_test⟩
theorem r_B (k : te σ H fun x H' => ∃ c, x = .bl c ∧ QB c H') : tB te σ H QB := k
instance ru_B  : Ru (tB te σ H QB) (te σ H fun x H' => ∃ c, x = .bl c ∧ QB c H') := ⟨r_B⟩
theorem r_bl {b : Bool} {R : Bool → Prop} (k : R b) : ∃ c, V.bl b = .bl c ∧ R c := ⟨b, rfl, k⟩
instance ru_bl {b : Bool} {R : Bool → Prop} : Ru (∃ c, V.bl b = .bl c ∧ R c) (R b) := ⟨r_bl⟩
theorem r_tru {b : Bool} {R : Bool → Prop} (k : R b) : ∃ c, TruV K (.bl b) H c ∧ R c := ⟨b, rfl, k⟩
instance ru_tru {b : Bool} {R : Bool → Prop} : Ru (∃ c, TruV K (.bl b) H c ∧ R c) (R b) := ⟨r_tru⟩
theorem r_trK (k : te σ H fun x H' => ∃ c, TruV K x H' c ∧ QB c H') : tTr K te σ H QB := k
instance ru_trK  : Ru (tTr K te σ H QB) (te σ H fun x H' => ∃ c, TruV K x H' c ∧ QB c H') := ⟨r_trK⟩
theorem r_and (k : t σ H fun c H1 => if c = true then u σ H1 QB else QB false H1) : tAnd t u σ H QB := k
instance ru_and  : Ru (tAnd t u σ H QB) (t σ H fun c H1 => if c = true then u σ H1 QB else QB false H1) := ⟨r_and⟩
theorem r_or (k : t σ H fun c H1 => if c = true then QB true H1 else u σ H1 QB) : tOr t u σ H QB := k
instance ru_or  : Ru (tOr t u σ H QB) (t σ H fun c H1 => if c = true then QB true H1 else u σ H1 QB) := ⟨r_or⟩
theorem r_not (k : t σ H fun c H1 => QB (!c) H1) : tNot t σ H QB := k
instance ru_not  : Ru (tNot t σ H QB) (t σ H fun c H1 => QB (!c) H1) := ⟨r_not⟩
theorem r_andV (k : ta σ H fun x H1 => ∃ c, x = .bl c ∧ if c = true then tb σ H1 Q else Q (.bl false) H1) : tAndV ta tb σ H Q := k
instance ru_andV  : Ru (tAndV ta tb σ H Q) (ta σ H fun x H1 => ∃ c, x = .bl c ∧ if c = true then tb σ H1 Q else Q (.bl false) H1) := ⟨r_andV⟩
theorem r_orV (k : ta σ H fun x H1 => ∃ c, x = .bl c ∧ if c = true then Q (.bl true) H1 else tb σ H1 Q) : tOrV ta tb σ H Q := k
instance ru_orV  : Ru (tOrV ta tb σ H Q) (ta σ H fun x H1 => ∃ c, x = .bl c ∧ if c = true then Q (.bl true) H1 else tb σ H1 Q) := ⟨r_orV⟩
theorem r_notV (k : ta σ H fun x H1 => ∃ c, x = .bl c ∧ Q (.bl (!c)) H1) : tNotV ta σ H Q := k
instance ru_notV  : Ru (tNotV ta σ H Q) (ta σ H fun x H1 => ∃ c, x = .bl c ∧ Q (.bl (!c)) H1) := ⟨r_notV⟩
theorem r_chain {r r' : R2} (k : ta σ H fun x H1 => tb σ H1 fun y H2 => r x y H2 fun z H3 => ∃ c, z = .bl c ∧ (if c = true then tc σ H3 fun w H4 => r' y w H4 Q else Q (.bl false) H3)) : tChain r r' ta tb tc σ H Q := k
instance ru_chain {r r' : R2} : Ru (tChain r r' ta tb tc σ H Q) (ta σ H fun x H1 => tb σ H1 fun y H2 => r x y H2 fun z H3 => ∃ c, z = .bl c ∧ (if c = true then tc σ H3 fun w H4 => r' y w H4 Q else Q (.bl false) H3)) := ⟨r_chain⟩
theorem r_T {A B : Prop} (h : A) : if true = true then A else B := h
instance ru_T {A B : Prop} : Ru (if true = true then A else B) (A) := ⟨r_T⟩
theorem r_F {A B : Prop} (h : B) : if false = true then A else B := h
instance ru_F {A B : Prop} : Ru (if false = true then A else B) (B) := ⟨r_F⟩
theorem r_nT {A B : Prop} (h : A) : if (!false) = true then A else B := h
instance ru_nT {A B : Prop} : Ru (if (!false) = true then A else B) (A) := ⟨r_nT⟩
theorem r_nF {A B : Prop} (h : B) : if (!true) = true then A else B := h
instance ru_nF {A B : Prop} : Ru (if (!true) = true then A else B) (B) := ⟨r_nF⟩
/-! ### operators by values -/
theorem r_addI {a b : Int} (k : Q (.int (a + b)) H) : uAdd K (.int a) (.int b) H Q := .inl ⟨a, b, rfl, rfl, k⟩
instance ru_addI {a b : Int} : Ru (uAdd K (.int a) (.int b) H Q) (Q (.int (a + b)) H) := ⟨r_addI⟩
theorem r_sub {a b : Int} (k : Q (.int (a - b)) H) : uSub (.int a) (.int b) H Q := ⟨a, b, rfl, rfl, k⟩
instance ru_sub {a b : Int} : Ru (uSub (.int a) (.int b) H Q) (Q (.int (a - b)) H) := ⟨r_sub⟩
theorem r_mul {a b : Int} (c : CMul a b) (k : Q (.int (a * b)) H) : uMul (.int a) (.int b) H Q := .inl ⟨a, b, rfl, rfl, c, k⟩
instance rs_mul {a b : Int} : Rs (uMul (.int a) (.int b) H Q) := ⟨trivial⟩
theorem cmulL {a b : Int} (h : -(2 ^ 64) < a ∧ a < 2 ^ 64) : CMul a b := .inl h
theorem cmulR {a b : Int} (h : -(2 ^ 64) < b ∧ b < 2 ^ 64) : CMul a b := .inr h
theorem r_mod {a b : Int} (h0 : 0 < b) (k : Q (.int (a % b)) H) : uMod (.int a) (.int b) H Q := ⟨a, b, rfl, rfl, h0, k⟩
instance rs_mod {a b : Int} : Rs (uMod (.int a) (.int b) H Q) := ⟨trivial⟩
theorem r_pow {a b : Int} (c : CPow a b) (k : Q (.int (a ^ b.toNat)) H) : uPow (.int a) (.int b) H Q := ⟨a, b, rfl, rfl, c, k⟩
instance rs_pow {a b : Int} : Rs (uPow (.int a) (.int b) H Q) := ⟨trivial⟩
theorem r_lt {a b : Int} (k : Q (.bl (decide (a < b))) H) : uLt (.int a) (.int b) H Q := ⟨a, b, rfl, rfl, k⟩
instance ru_lt {a b : Int} : Ru (uLt (.int a) (.int b) H Q) (Q (.bl (decide (a < b))) H) := ⟨r_lt⟩
theorem r_le {a b : Int} (k : Q (.bl (decide (a ≤ b))) H) : uLe (.int a) (.int b) H Q := ⟨a, b, rfl, rfl, k⟩
instance ru_le {a b : Int} : Ru (uLe (.int a) (.int b) H Q) (Q (.bl (decide (a ≤ b))) H) := ⟨r_le⟩
theorem r_gt {a b : Int} (k : Q (.bl (decide (b < a))) H) : uGt (.int a) (.int b) H Q := ⟨a, b, rfl, rfl, k⟩
instance ru_gt {a b : Int} : Ru (uGt (.int a) (.int b) H Q) (Q (.bl (decide (b < a))) H) := ⟨r_gt⟩
theorem r_ge {a b : Int} (k : Q (.bl (decide (b ≤ a))) H) : uGe (.int a) (.int b) H Q := ⟨a, b, rfl, rfl, k⟩
instance ru_ge {a b : Int} : Ru (uGe (.int a) (.int b) H Q) (Q (.bl (decide (b ≤ a))) H) := ⟨r_ge⟩
theorem r_isN (k : Q (.bl (decide (x = .non))) H) : rIsN x .non H Q := ⟨rfl, k⟩
instance ru_isN  : Ru (rIsN x .non H Q) (Q (.bl (decide (x = .non))) H) := ⟨r_isN⟩
theorem r_notN (k : Q (.bl (!decide (x = .non))) H) : rNotN x .non H Q := ⟨rfl, k⟩
instance ru_notN  : Ru (rNotN x .non H Q) (Q (.bl (!decide (x = .non))) H) := ⟨r_notN⟩
/-- xs[i] of a list that stands in H (ixL), of any list or tuple that may be read -/
theorem r_ixL {p : Addr} {n : Int} {xs : List V} (h : SqL K H p xs) (ha : atI xs n = some v) (k : Q v H) : rIx K (.ref p) (.int n) H Q := .inl ⟨p, xs, n, v, rfl, rfl, h, ha, k⟩
instance rs_ix {p : Addr} {n : Int} : Rs (rIx K (.ref p) (.int n) H Q) := ⟨trivial⟩
theorem r_ixT {p : Addr} {n : Int} {xs : List V} (h : SqT K H p xs) (ha : atI xs n = some v) (k : Q v H) : rIx K (.ref p) (.int n) H Q := .inr (.inl ⟨p, xs, n, v, rfl, rfl, h, ha, k⟩)
/-! ### built-ins by values -/
theorem r_lenL {p : Addr} {xs : List V} (h : SqL K H p xs) (k : Q (.int (xs.length : Nat)) H) : uLen K [.ref p] H Q := .inl ⟨_, _, rfl, .inl ⟨xs, h, rfl⟩, k⟩
instance rs_len {p : Addr} : Rs (uLen K [.ref p] H Q) := ⟨trivial⟩
theorem r_lenT {p : Addr} {xs : List V} (h : SqT K H p xs) (k : Q (.int (xs.length : Nat)) H) : uLen K [.ref p] H Q := .inl ⟨_, _, rfl, .inr ⟨xs, h, rfl⟩, k⟩
theorem r_abs {a : Int} (k : Q (.int (if a < 0 then -a else a)) H) : uAbs [.int a] H Q := ⟨a, rfl, k⟩
instance ru_abs {a : Int} : Ru (uAbs [.int a] H Q) (Q (.int (if a < 0 then -a else a)) H) := ⟨r_abs⟩
theorem r_min2 {a b : Int} (k : Q (.int (if b < a then b else a)) H) : uMin2 [.int a, .int b] H Q := ⟨a, b, rfl, k⟩
instance ru_min2 {a b : Int} : Ru (uMin2 [.int a, .int b] H Q) (Q (.int (if b < a then b else a)) H) := ⟨r_min2⟩
theorem r_max2 {a b : Int} (k : Q (.int (if b > a then b else a)) H) : uMax2 [.int a, .int b] H Q := ⟨a, b, rfl, k⟩
instance ru_max2 {a b : Int} : Ru (uMax2 [.int a, .int b] H Q) (Q (.int (if b > a then b else a)) H) := ⟨r_max2⟩
theorem r_intI {a : Int} (k : Q (.int a) H) : uInt [.int a] H Q := .inl (.inl ⟨a, rfl, k⟩)
instance ru_intI {a : Int} : Ru (uInt [.int a] H Q) (Q (.int a) H) := ⟨r_intI⟩
theorem r_intB {b : Bool} (k : Q (.int (if b then 1 else 0)) H) : uInt [.bl b] H Q := .inl (.inr ⟨b, rfl, k⟩)
instance ru_intB {b : Bool} : Ru (uInt [.bl b] H Q) (Q (.int (if b then 1 else 0)) H) := ⟨r_intB⟩
theorem r_repr {d : PyData} (hd : Dp K H x d) (hs : d.showable = true) (hn : d.hasDict = false) (hz : d.depth ≤ 60) (hl : d.shown.length ≤ sizeLine) (k : Q (.str d.shown) H) : rRepr K [x] H Q := ⟨x, d, rfl, hd, hs, hn, hz, hl, k⟩
/-! ### statements -/
theorem r_seq (k : t1 { D with nx := t2 D } σ H) : tSeq t1 t2 D σ H := k
instance ru_seq  : Ru (tSeq t1 t2 D σ H) (t1 { D with nx := t2 D } σ H) := ⟨r_seq⟩
theorem r_next (k : D.nx σ H) : tNext D σ H := k
instance ru_next  : Ru (tNext D σ H) (D.nx σ H) := ⟨r_next⟩
theorem r_asg {g : TG} (k : te σ H fun x H1 => g x σ H1 D.nx) : tAsg te g D σ H := k
instance ru_asg {g : TG} : Ru (tAsg te g D σ H) (te σ H fun x H1 => g x σ H1 D.nx) := ⟨r_asg⟩
/-- the slots behind the store, written out -/
theorem r_gNameE {σ' : St} (e : σ.set i (some v) = σ') (k : QS σ' H) : gName i v σ H QS := by subst e; exact k
instance rs_gName : Rs (gName i v σ H QS) := ⟨trivial⟩
theorem r_gSub {to ti : TE} {s : TSet} (k : to σ H fun o H1 => ti σ H1 fun i H2 => s o i v H2 fun H3 => QS σ H3) : gSub to ti s v σ H QS := k
instance ru_gSub {to ti : TE} {s : TSet} : Ru (gSub to ti s v σ H QS) (to σ H fun o H1 => ti σ H1 fun i H2 => s o i v H2 fun H3 => QS σ H3) := ⟨r_gSub⟩
theorem r_setL {p : Addr} {n : Int} {xs : List V} {m : Nat} {QH : Hp → Prop} (h : H p = some (.lst xs)) (hi : ixN xs.length n = some m) (k : QH (upd H p (.lst (xs.set m v)))) : rSetL (.ref p) (.int n) v H QH := ⟨p, xs, n, m, rfl, rfl, h, hi, k⟩
instance rs_setL {p : Addr} {n : Int} {QH : Hp → Prop} : Rs (rSetL (.ref p) (.int n) v H QH) := ⟨trivial⟩
theorem r_ret (k : te σ H D.rt) : tRet te D σ H := k
instance ru_ret  : Ru (tRet te D σ H) (te σ H D.rt) := ⟨r_ret⟩
theorem r_ifS (k : t σ H fun b H1 => if b = true then t1 D σ H1 else t2 D σ H1) : tIfS t t1 t2 D σ H := k
instance ru_ifS  : Ru (tIfS t t1 t2 D σ H) (t σ H fun b H1 => if b = true then t1 D σ H1 else t2 D σ H1) := ⟨r_ifS⟩
theorem r_drop (k : te σ H fun _ H1 => D.nx σ H1) : tDrop te D σ H := k
instance ru_drop  : Ru (tDrop te D σ H) (te σ H fun _ H1 => D.nx σ H1) := ⟨r_drop⟩
theorem r_for {wi : TI} {g : TG} (k : wi σ H fun J H1 => ∃ W : Nat → Nat → St → Hp → Prop, (∃ m, W 0 m σ H1) ∧ ∀ i m σ H, W i m σ H →
  (J.stop i H ∧ D.nx σ H) ∨ (J.go i H ∧ ∃ N : St → Hp → Prop, (∀ σ' H', N σ' H' → ∃ m', m' < m ∧ W (i + 1) m' σ' H') ∧ ∀ x H', J.yld i H x H' → g x σ H' fun σ2 H2 => ts { D with nx := N, ct := N, bk := D.nx } σ2 H2)) : tFor wi g ts D σ H := k
instance ru_for {wi : TI} {g : TG} : Ru (tFor wi g ts D σ H) (wi σ H fun J H1 => ∃ W : Nat → Nat → St → Hp → Prop, (∃ m, W 0 m σ H1) ∧ ∀ i m σ H, W i m σ H → (J.stop i H ∧ D.nx σ H) ∨ (J.go i H ∧ ∃ N : St → Hp → Prop, (∀ σ' H', N σ' H' → ∃ m', m' < m ∧ W (i + 1) m' σ' H') ∧ ∀ x H', J.yld i H x H' → g x σ H' fun σ2 H2 => ts { D with nx := N, ct := N, bk := D.nx } σ2 H2)) := ⟨r_for⟩
end
end Hg
end L2
end

section
set_option Elab.async false
set_option linter.all false
set_option maxRecDepth 100000
set_option maxHeartbeats 4000000
/-! A def of the text as one hypothesis: where it stands (DefAt), what it keeps (DefOk, DefG); classes and errors likewise; boxes of draws. -/
namespace L2
namespace Hg
open PySem PySem.Spec PyProof.Rows

structure DefAt (K : PySem.W.Frag) (mg : Str → Option Value) (x : Str) (st : Stmt) : Prop where
  ex : ∃ f fd, mg x = some (.ref f) ∧ Fun K x x st f fd
def DefOk (P : Program) (w : World) (K : PySem.W.Frag) (mg : Str → Option Value) (base : Heap) (CX : CXT) (k : Nat) (x : Str) (ps : List Str) (sp : Sp) : Prop :=
  ∃ f fd, mg x = some (.ref f) ∧ PySem.W.keepIn K (.ref f) = true ∧ FnOk P w K mg base CX k f fd ps sp ∧ Binds K fd ps []
def DefG (P : Program) (w : World) (K : PySem.W.Frag) (mg : Str → Option Value) (base : Heap) (CX : CXT) (k : Nat) (x : Str) (ps : List Str) (sp : Sp) : Prop :=
  ∃ f fd, mg x = some (.ref f) ∧ PySem.W.keepIn K (.ref f) = true ∧ FnG P w K mg base CX k f fd ps sp ∧ Binds K fd ps []
abbrev BindsBy (st : Stmt) (x : Str) (ps : List Str) : Prop := ∀ (kV doc pm : Value) (an : Option Addr) (cdv ct : Value) (us : List Value), us.length = ps.length →
  bindArgs (PySem.W.fnOf x x (defArgs st) (defBody st) (defScope st) .none kV doc pm an cdv ct) ⟨us, []⟩ = pure (ps.zip us)
section
variable {P : Program} {w : World} {K : PySem.W.Frag} {mg : Str → Option Value} {base : Heap} {k : Nat} {x : Str} {st : Stmt} {N ps : List Str} {sp : Sp}
theorem DefAt.ok (F : DefAt K mg x st) (S : FnScope N ps (defScope st)) (hb : BindsBy st x ps) (len : ∀ vs H Q E, sp vs H Q E → vs.length = ps.length)
    (hbody : ∀ (f : Addr) (cdv : Value) (A : Around) (outer : List Env) (s : Shared) (H : Hp) (vs : List V) (Q : VK) (E : XK), Room k (A.deeper (envOfC x (defScope st) s.heap.objs.size f cdv)) → sp vs H Q E →
      ∃ t, PSs (cxOf CX0 P w K mg base N x (defScope st) f cdv A outer s H E).nox (defBody st) t ∧ t { nx := fun _ H' => Q .non H', rt := Q } (start N vs) H) : DefOk P w K mg base CX0 (k + 1) x ps sp := by
  obtain ⟨f, fd, hm, F⟩ := F.ex
  exact ⟨f, fd, hm, F.kp, F.ok S len fun cdv A outer s H vs Q E hr h => hbody f cdv A outer s H vs Q E hr h, F.binds hb⟩
end
section
variable {X : Cx} {CX : CXT} {k : Nat} {ps : List Str} {sp : Sp} {E : XK} {x : Str} {p pos : Pos} {e : Expr} {es : List Expr} {t : TA}
end

/-! ### errors -/
/-- the error class x at C: its own `__init__` st, over the base G named g -/
structure ErrAt (K : PySem.W.Frag) (mg : Str → Option Value) (x q : Str) (st : Stmt) (C : Addr) : Prop where
  hm : mg x = some (.ref C)
  cl : OexC K C
  it : ∃ f fd, PySem.W.findIn K (.ref C) "__init__" = some (some (.ref f)) ∧ PySem.W.typeIn K (.ref f) = some (.type "function") ∧ Fun K "__init__" q st f fd
/-- what making such an error keeps -/
def ErrOk (P : Program) (w : World) (K : PySem.W.Frag) (mg : Str → Option Value) (base : Heap) (k : Nat) (x : Str) (C : Addr) (ps : List Str) (sp : Sp) : Prop :=
  mg x = some (.ref C) ∧ OexC K C ∧ ∃ f fd, PySem.W.findIn K (.ref C) "__init__" = some (some (.ref f)) ∧ PySem.W.typeIn K (.ref f) = some (.type "function") ∧ FnOk P w K mg base CX0 k f fd ps sp ∧ Binds K fd ps []
abbrev BindsAs (st : Stmt) (x q : Str) (ps : List Str) : Prop := ∀ (kV doc pm : Value) (an : Option Addr) (cdv ct : Value) (us : List Value), us.length = ps.length →
  bindArgs (PySem.W.fnOf x q (defArgs st) (defBody st) (defScope st) .none kV doc pm an cdv ct) ⟨us, []⟩ = pure (ps.zip us)
section
variable {P : Program} {w : World} {K : PySem.W.Frag} {mg : Str → Option Value} {base : Heap} {k : Nat} {x q : Str} {st : Stmt} {C : Addr} {N ps : List Str} {sp : Sp}
theorem ErrAt.ok (F : ErrAt K mg x q st C) (S : FnScope N ps (defScope st)) (hb : BindsAs st "__init__" q ps) (len : ∀ vs H Q E, sp vs H Q E → vs.length = ps.length)
    (hbody : ∀ (f : Addr) (cdv : Value) (A : Around) (outer : List Env) (s : Shared) (H : Hp) (vs : List V) (Q : VK) (E : XK), Room k (A.deeper (envOfC q (defScope st) s.heap.objs.size f cdv)) → sp vs H Q E →
      ∃ t, PSs (cxOf CX0 P w K mg base N q (defScope st) f cdv A outer s H E).nox (defBody st) t ∧ t { nx := fun _ H' => Q .non H', rt := Q } (start N vs) H) : ErrOk P w K mg base (k + 1) x C ps sp := by
  obtain ⟨f, fd, hi, ht, F1⟩ := F.it
  exact ⟨F.hm, F.cl, f, fd, hi, ht, F1.ok S len fun cdv A outer s H vs Q E hr h => hbody f cdv A outer s H vs Q E hr h, F1.binds hb⟩
end
section
variable {X : Cx} {k : Nat} {ps : List Str} {sp : Sp} {x : Str} {p pos : Pos} {C : Addr} {e : Expr} {es : List Expr} {ta : TA}
end

/-! ### classes -/
section
variable {X : Cx} {CX : CXT} {k : Nat} {ps : List Str} {dvs : List V} {sp : Sp} {E : XK} {ES : St → XK} {x : Str} {p pos : Pos} {C : Addr} {e : Expr} {es : List Expr} {t : TA}
end

/-! ### boxes of draws -/
/-- at b a list of three ints -/
def BoxAt (H : Hp) (b : Addr) : Prop := ∃ x y z : Int, H b = some (.lst [.int x, .int y, .int z])
/-- what was tracked stays, but for b, which is a box -/
structure Bx (b : Addr) (H H' : Hp) : Prop where
  keep : ∀ x o, x ≠ b → H x = some o → H' x = some o
  box : BoxAt H' b
theorem Bx.refl {b : Addr} {H : Hp} (h : BoxAt H b) : Bx b H H := ⟨fun _ _ _ z => z, h⟩
theorem Bx.trans {b : Addr} {H H1 H2 : Hp} (h : Bx b H H1) (g : Bx b H1 H2) : Bx b H H2 := ⟨fun x o n z => g.keep x o n (h.keep x o n z), g.box⟩
theorem Bx.upd {b p : Addr} {H H1 : Hp} {o : HO} (h : Bx b H H1) (hp : H1 p = none) : Bx b H (upd H1 p o) := by
  refine ⟨fun x u n z => ?_, ?_⟩
  · have q := h.keep x u n z
    rw [upd_ne (ne_of_none q hp)]; exact q
  · obtain ⟨x, y, z, q⟩ := h.box
    exact ⟨x, y, z, by rw [upd_ne (ne_of_none q hp)]; exact q⟩
theorem Bx.updD {b p : Addr} {H H1 : Hp} {o : HO} (h : Bx b H H1) (hp : H p = none) (n : p ≠ b) : Bx b H (L2.upd H1 p o) := by
  refine ⟨fun x u ne z => at_upd (ne_of_none z hp) (h.keep x u ne z), ?_⟩
  obtain ⟨x, y, z, q⟩ := h.box
  exact ⟨x, y, z, at_upd (Ne.symm n) q⟩
theorem Bx.set {b : Addr} {H H1 : Hp} (h : Bx b H H1) (x y z : Int) : Bx b H (L2.upd H1 b (.lst [.int x, .int y, .int z])) := ⟨fun a o n q => (upd_ne n).trans (h.keep a o n q), x, y, z, upd_same⟩
theorem BoxAt.upd {b p : Addr} {H : Hp} {o : HO} (h : BoxAt H b) (hp : H p = none) : BoxAt (upd H p o) b := ((Bx.refl h).upd hp).box
theorem BoxAt.ne {b p : Addr} {H : Hp} {o : HO} (h : BoxAt H b) (hp : H p = some o) (d : ∀ x y z : Int, o ≠ .lst [.int x, .int y, .int z]) : p ≠ b := by
  intro e
  subst e
  obtain ⟨x, y, z, q⟩ := h
  rw [hp] at q
  exact d x y z (Option.some.inj q)
theorem BoxAt.some {b : Addr} {H : Hp} (h : BoxAt H b) : ∃ o, H b = some o := let ⟨_, _, _, q⟩ := h; ⟨_, q⟩
theorem Bx.seqL {K : PySem.W.Frag} {b l : Addr} {H H' : Hp} {xs : List V} (h : Bx b H H') (n : l ≠ b) (q : SqL K H l xs) : SqL K H' l xs := by
  rcases q with (q | ⟨o, q⟩) | q
  · exact .inl (.inl (h.keep _ _ n q))
  · exact .inl (.inr ⟨o, h.keep _ _ n q⟩)
  · exact .inr q
theorem Bx.free {b p : Addr} {H H' : Hp} (h : Bx b H H') (hp : H' p = none) : H p = none := by
  cases e : H p with
  | none => rfl
  | some o =>
    by_cases n : p = b
    · subst n
      obtain ⟨x, y, z, q⟩ := h.box
      rw [hp] at q; cases q
    · rw [h.keep p o n e] at hp; cases hp
end Hg
end L2
end

section
set_option Elab.async false
set_option linter.all false
set_option maxRecDepth 100000
set_option maxHeartbeats 400000
/-! Any values: None, bools, ints, texts, lists, tuples; their kinds, their data; what stays. -/
namespace L2
namespace Hg
open PySem PySem.Spec PyProof.Rows

/-- any value of a kind that isinstance can tell -/
inductive Kd (K : PySem.W.Frag) (H : Hp) : V → Prop
  | non : Kd K H .non
  | bl (b : Bool) : Kd K H (.bl b)
  | int (i : Int) : Kd K H (.int i)
  | str (x : Str) : Kd K H (.str x)
  | lst {a : Addr} {xs : List V} : SqL K H a xs → Kd K H (.ref a)
  | tup {a : Addr} {xs : List V} : SqT K H a xs → Kd K H (.ref a)
def isIB : V → Bool | .int _ => true | .bl _ => true | _ => false
def isB : V → Bool | .bl _ => true | _ => false
def isS : V → Bool | .str _ => true | _ => false
section
variable {K : PySem.W.Frag} {H H' : Hp} {v : V}
theorem sameT {a : Addr} {xs : List V} (e : Same H H') (h : SqT K H a xs) : SqT K H' a xs := by
  rcases h with (h | ⟨o, h⟩) | h
  · exact .inl (.inl (e _ _ h))
  · exact .inl (.inr ⟨o, e _ _ h⟩)
  · exact .inr h
theorem Kd.mono (e : Same H H') (h : Kd K H v) : Kd K H' v := by
  cases h with
  | non => exact .non
  | bl b => exact .bl b
  | int i => exact .int i
  | str x => exact .str x
  | lst h => exact .lst (e.seq h)
  | tup h => exact .tup (sameT e h)
mutual
theorem Dp.mono (e : Same H H') : ∀ (d : PyData) (v : V), Dp K H v d → Dp K H' v d
  | .none, _, h => by cases h; exact .non
  | .bool b, _, h => by cases h; exact .bl b
  | .int i, _, h => by cases h; exact .int i
  | .str x, _, h => by cases h; exact .str x
  | .list ds, _, h => by
    cases h with
    | lst hs ha => exact .lst (e.seq hs) (DpAll.mono e ds _ ha)
  | .tuple ds, _, h => by
    cases h with
    | tup hs ha => exact .tup (sameT e hs) (DpAll.mono e ds _ ha)
  | .dict _, _, h => by cases h
theorem DpAll.mono (e : Same H H') : ∀ (ds : List PyData) (vs : List V), DpAll K H vs ds → DpAll K H' vs ds
  | [], _, h => by cases h; exact .nil
  | d :: ds, _, h => by
    cases h with
    | cons h1 h2 => exact .cons (Dp.mono e d _ h1) (DpAll.mono e ds _ h2)
end
theorem Dp.kd {d : PyData} (h : Dp K H v d) : Kd K H v := by
  cases h with
  | non => exact .non
  | bl b => exact .bl b
  | int i => exact .int i
  | str x => exact .str x
  | lst h _ => exact .lst h
  | tup h _ => exact .tup h
end
/-! ### the promises of `signs` -/
def fromV (v : V) (a b : Int) : Bool := match v with | .int i => decide (a ≤ i) && decide (i ≤ b) | _ => false
/-! ### what stays of a heap but for a box -/
theorem Bx.same {b : Addr} {H H' : Hp} (h : Bx b H H') : Same (del H b) (del H' b) := fun a o q => by
  unfold del at q ⊢
  split at q
  · cases q
  · rename_i n
    rw [if_neg n]
    exact h.keep a o n q
theorem same_new {H : Hp} {p : Addr} {o : HO} (h : H p = none) : Same H (upd H p o) := fun a u q => at_upd (ne_of_none q h) q
/-! ### data that may be shown -/
/-- v is data of depth at most k, whose text has at most n signs -/
structure Sh (K : PySem.W.Frag) (H : Hp) (v : V) (d : PyData) (k n : Nat) : Prop where
  dp : Dp K H v d
  sw : d.showable = true
  nd : d.hasDict = false
  cl : d.canLay0 = true
  dpt : d.depth ≤ k
  len : d.shown.length ≤ n
section
variable {K : PySem.W.Frag} {H H' : Hp} {v : V} {d : PyData} {k k' n n' : Nat}
theorem Sh.mono (e : Same H H') (h : Sh K H v d k n) : Sh K H' v d k n := ⟨Dp.mono e _ _ h.dp, h.sw, h.nd, h.cl, h.dpt, h.len⟩
theorem Sh.up (h : Sh K H v d k n) (hk : k ≤ k') (hn : n ≤ n') : Sh K H v d k' n' := ⟨h.dp, h.sw, h.nd, h.cl, Nat.le_trans h.dpt hk, Nat.le_trans h.len hn⟩
theorem Sh.repr {Q : VK} (h : Sh K H v d k n) (hk : k ≤ 60) (hn : n ≤ 100000) (q : Q (.str d.shown) H) : rRepr K [v] H Q :=
  r_repr h.dp h.sw h.nd (Nat.le_trans h.dpt hk) (sz (Nat.le_trans h.len hn)) q
end
/-! ### isinstance of a caught error -/
/-! ### fields -/
section
variable {K : PySem.W.Frag} {H : Hp} {Q : VK} {σ : St} {D : Ends} {ta tv : TE} {f : Str} {a C dx : Addr} {fs : List (Str × V)} {v : V}
theorem r_sFld (k : tv σ H fun y H1 => ta σ H1 fun x H2 => ∃ a C dx fs, x = .ref a ∧ H2 a = some (.ins C dx fs) ∧ Cls K C ∧ NoAttr K C f ∧ fs.length < 1000 ∧ D.nx σ (upd H2 a (.ins C dx (putF f y fs)))) : sFld K ta tv f D σ H := k
instance ru_sFld  : Ru (sFld K ta tv f D σ H) (tv σ H fun y H1 => ta σ H1 fun x H2 => ∃ a C dx fs, x = .ref a ∧ H2 a = some (.ins C dx fs) ∧ Cls K C ∧ NoAttr K C f ∧ fs.length < 1000 ∧ D.nx σ (upd H2 a (.ins C dx (putF f y fs)))) := ⟨r_sFld⟩
theorem r_fld (k : ta σ H fun x H1 => ∃ a C dx fs v, x = .ref a ∧ H1 a = some (.ins C dx fs) ∧ Cls K C ∧ NoAttr K C f ∧ fs.lookup f = some v ∧ Q v H1) : tFld K ta f σ H Q := k
instance ru_fld  : Ru (tFld K ta f σ H Q) (ta σ H fun x H1 => ∃ a C dx fs v, x = .ref a ∧ H1 a = some (.ins C dx fs) ∧ Cls K C ∧ NoAttr K C f ∧ fs.lookup f = some v ∧ Q v H1) := ⟨r_fld⟩
end
/-! ### dicts -/
section
variable {σ : St} {H : Hp} {Q : VK} {D : Ends} {td ty tv : TE}
theorem r_disp {trs : List (TE × TE)} (k : ∀ p, H p = none → tPairs trs σ (upd H p (.dK [])) fun ps H2 => H2 p = some (.dK []) ∧ ∃ kvs : List (Key × V), ps = kvs.map (fun kv => (kV kv.1, kv.2)) ∧ kvs.length ≤ 15 ∧ Q (.ref p) (upd H2 p (.dK (mergeK [] kvs)))) : tDisp trs σ H Q := k
instance ru_disp {trs : List (TE × TE)} : Ru (tDisp trs σ H Q) (∀ p, H p = none → tPairs trs σ (upd H p (.dK [])) fun ps H2 => H2 p = some (.dK []) ∧ ∃ kvs : List (Key × V), ps = kvs.map (fun kv => (kV kv.1, kv.2)) ∧ kvs.length ≤ 15 ∧ Q (.ref p) (upd H2 p (.dK (mergeK [] kvs)))) := ⟨r_disp⟩
theorem r_pairs {QP : List (V × V) → Hp → Prop} {r : List (TE × TE)} (k : td σ H fun x H1 => tv σ H1 fun y H2 => tPairs r σ H2 fun ps H3 => QP ((x, y) :: ps) H3) : tPairs ((td, tv) :: r) σ H QP := k
instance ru_pairs {QP : List (V × V) → Hp → Prop} {r : List (TE × TE)} : Ru (tPairs ((td, tv) :: r) σ H QP) (td σ H fun x H1 => tv σ H1 fun y H2 => tPairs r σ H2 fun ps H3 => QP ((x, y) :: ps) H3) := ⟨r_pairs⟩
theorem r_pairs0 {QP : List (V × V) → Hp → Prop} (k : QP [] H) : tPairs [] σ H QP := k
instance ru_pairs0 {QP : List (V × V) → Hp → Prop} : Ru (tPairs [] σ H QP) (QP [] H) := ⟨r_pairs0⟩
theorem r_dput (k : tv σ H fun v H1 => td σ H1 fun x H2 => ty σ H2 fun y H3 => ∃ a H4, x = .ref a ∧ DPut H3 a y v H4 ∧ D.nx σ H4) : sDPut td ty tv D σ H := k
instance ru_dput  : Ru (sDPut td ty tv D σ H) (tv σ H fun v H1 => td σ H1 fun x H2 => ty σ H2 fun y H3 => ∃ a H4, x = .ref a ∧ DPut H3 a y v H4 ∧ D.nx σ H4) := ⟨r_dput⟩
theorem r_dget (k : td σ H fun x H1 => ty σ H1 fun y H2 => ∃ a v, x = .ref a ∧ DGet H2 a y (some v) ∧ Q v H2) : tDGet td ty σ H Q := k
instance ru_dget  : Ru (tDGet td ty σ H Q) (td σ H fun x H1 => ty σ H1 fun y H2 => ∃ a v, x = .ref a ∧ DGet H2 a y (some v) ∧ Q v H2) := ⟨r_dget⟩
end
/-! ### loops and comprehensions -/
section
variable {σ : St} {H : Hp} {Q : VK} {D : Ends} {K : PySem.W.Frag}
theorem r_rng1 {ta : TA} {R : It → Hp → Prop} (k : ta σ H fun vs H1 => ∃ j : Int, vs = [.int j] ∧ -(2 ^ 62) ≤ j ∧ j < 2 ^ 62 ∧ R (Itr 0 j.toNat) H1) : iRng1 ta σ H R := k
instance ru_rng1 {ta : TA} {R : It → Hp → Prop} : Ru (iRng1 ta σ H R) (ta σ H fun vs H1 => ∃ j : Int, vs = [.int j] ∧ -(2 ^ 62) ≤ j ∧ j < 2 ^ 62 ∧ R (Itr 0 j.toNat) H1) := ⟨r_rng1⟩
theorem r_rng2 {ta : TA} {R : It → Hp → Prop} (k : ta σ H fun vs H1 => ∃ i j : Int, vs = [.int i, .int j] ∧ (-(2 ^ 62) ≤ i ∧ i < 2 ^ 62 ∧ -(2 ^ 62) ≤ j ∧ j < 2 ^ 62) ∧ R (Itr i (j - i).toNat) H1) : iRng2 ta σ H R := k
instance ru_rng2 {ta : TA} {R : It → Hp → Prop} : Ru (iRng2 ta σ H R) (ta σ H fun vs H1 => ∃ i j : Int, vs = [.int i, .int j] ∧ (-(2 ^ 62) ≤ i ∧ i < 2 ^ 62 ∧ -(2 ^ 62) ≤ j ∧ j < 2 ^ 62) ∧ R (Itr i (j - i).toNat) H1) := ⟨r_rng2⟩
theorem r_iL {tl : TE} {R : It → Hp → Prop} (k : tl σ H fun x H1 => ∃ a, x = .ref a ∧ (∃ xs, SqL K H1 a xs) ∧ R (Itl K a) H1) : iList K tl σ H R := k
instance ru_iL {tl : TE} {R : It → Hp → Prop} : Ru (iList K tl σ H R) (tl σ H fun x H1 => ∃ a, x = .ref a ∧ (∃ xs, SqL K H1 a xs) ∧ R (Itl K a) H1) := ⟨r_iL⟩
theorem r_iT {tl : TE} {R : It → Hp → Prop} (k : tl σ H fun x H1 => ∃ a, x = .ref a ∧ (∃ xs, SqT K H1 a xs) ∧ R (Itt K a) H1) : iTup K tl σ H R := k
instance ru_iT {tl : TE} {R : It → Hp → Prop} : Ru (iTup K tl σ H R) (tl σ H fun x H1 => ∃ a, x = .ref a ∧ (∃ xs, SqT K H1 a xs) ∧ R (Itt K a) H1) := ⟨r_iT⟩
theorem r_lc {wi : TI} {g : TG} {tt : TT} {te : TE} {vs : List Nat} (k : wi σ H fun J H1 => ∀ D, H1 D = none → ∃ W : Nat → Nat → Hp → Prop, (∃ m, W 0 m (upd H1 D (.lst []))) ∧ ∀ i m H, W i m H →
  (J.stop i H ∧ Q (.ref D) H) ∨ (J.go i H ∧ ∃ Nx : Hp → Prop, (∀ H', Nx H' → ∃ m', m' < m ∧ W (i + 1) m' H') ∧ ∀ x H', J.yld i H x H' → g x (wipe σ vs) H' fun σ2 H2 => wipe σ2 vs = wipe σ vs ∧ tt σ2 H2 fun b H3 =>
    if b = true then te σ2 H3 fun y H4 => ∃ acc, H4 D = some (.lst acc) ∧ acc.length < sizeLine ∧ Nx (upd H4 D (.lst (acc ++ [y]))) else Nx H3)) : tLc wi g tt te vs σ H Q := k
instance ru_lc {wi : TI} {g : TG} {tt : TT} {te : TE} {vs : List Nat} : Ru (tLc wi g tt te vs σ H Q) (wi σ H fun J H1 => ∀ D, H1 D = none → ∃ W : Nat → Nat → Hp → Prop, (∃ m, W 0 m (upd H1 D (.lst []))) ∧ ∀ i m H, W i m H → (J.stop i H ∧ Q (.ref D) H) ∨ (J.go i H ∧ ∃ Nx : Hp → Prop, (∀ H', Nx H' → ∃ m', m' < m ∧ W (i + 1) m' H') ∧ ∀ x H', J.yld i H x H' → g x (wipe σ vs) H' fun σ2 H2 => wipe σ2 vs = wipe σ vs ∧ tt σ2 H2 fun b H3 => if b = true then te σ2 H3 fun y H4 => ∃ acc, H4 D = some (.lst acc) ∧ acc.length < sizeLine ∧ Nx (upd H4 D (.lst (acc ++ [y]))) else Nx H3)) := ⟨r_lc⟩
theorem r_gCons {t : TG} {u : TGs} {QS : St → Hp → Prop} {v : V} {r : List V} (k : t v σ H fun σ' H' => u r σ' H' QS) : gCons t u (v :: r) σ H QS := ⟨v, r, rfl, k⟩
instance ru_gCons {t : TG} {u : TGs} {QS : St → Hp → Prop} {v : V} {r : List V} : Ru (gCons t u (v :: r) σ H QS) (t v σ H fun σ' H' => u r σ' H' QS) := ⟨r_gCons⟩
theorem r_gNil {QS : St → Hp → Prop} (k : QS σ H) : gNil [] σ H QS := ⟨rfl, k⟩
instance ru_gNil {QS : St → Hp → Prop} : Ru (gNil [] σ H QS) (QS σ H) := ⟨r_gNil⟩
theorem r_yes {QB : Bool → Hp → Prop} (k : QB true H) : tYes σ H QB := k
instance ru_yes {QB : Bool → Hp → Prop} : Ru (tYes σ H QB) (QB true H) := ⟨r_yes⟩
theorem take_succ {α : Type} : ∀ {l : List α} {i : Nat} {x : α}, l[i]? = some x → l.take (i + 1) = l.take i ++ [x]
  | [], i, x, h => by simp at h
  | a :: l, 0, x, h => by
    simp at h
    subst h
    rfl
  | a :: l, i + 1, x, h => by
    have ih := take_succ (l := l) (i := i) (x := x) (by simpa using h)
    simp only [List.take_succ_cons, ih, List.cons_append]
end
/-! ### what calls raise -/
theorem r_veI {K : PySem.W.Frag} {ta : TA} {σ : St} {H : Hp} {Q : VK} (k : ta σ H fun vs H1 => ∃ (a C : Addr) (ws : List V), vs = .ref a :: ws ∧ ws.length ≤ 1000 ∧ OexC K C ∧ H1 a = some (exo a C none) ∧ Q .non H1) : tVeI K ta σ H Q := k
instance ru_veI {K : PySem.W.Frag} {ta : TA} {σ : St} {H : Hp} {Q : VK} : Ru (tVeI K ta σ H Q) (ta σ H fun vs H1 => ∃ (a C : Addr) (ws : List V), vs = .ref a :: ws ∧ ws.length ≤ 1000 ∧ OexC K C ∧ H1 a = some (exo a C none) ∧ Q .non H1) := ⟨r_veI⟩
theorem r_makeS {C : Addr} {sp : Sp} {dvs : List V} {E : St → XK} {t : TA} {σ : St} {H : Hp} {Q : VK} (k : t σ H fun vs H1 => ∀ x dx, H1 x = none → H1 dx = none → dx ≠ x →
  sp (.ref x :: (vs ++ dvs)) (upd (upd H1 dx (.own x)) x (.ins C dx [])) (fun v H2 => v = .non ∧ Q (.ref x) H2) (E σ)) : tMakeS C sp dvs E t σ H Q := k
instance ru_makeS {C : Addr} {sp : Sp} {dvs : List V} {E : St → XK} {t : TA} {σ : St} {H : Hp} {Q : VK} : Ru (tMakeS C sp dvs E t σ H Q) (t σ H fun vs H1 => ∀ x dx, H1 x = none → H1 dx = none → dx ≠ x → sp (.ref x :: (vs ++ dvs)) (upd (upd H1 dx (.own x)) x (.ins C dx [])) (fun v H2 => v = .non ∧ Q (.ref x) H2) (E σ)) := ⟨r_makeS⟩
theorem r_make {C : Addr} {sp : Sp} {dvs : List V} {E : XK} {t : TA} {σ : St} {H : Hp} {Q : VK} (k : t σ H fun vs H1 => ∀ x dx, H1 x = none → H1 dx = none → dx ≠ x →
  sp (.ref x :: (vs ++ dvs)) (upd (upd H1 dx (.own x)) x (.ins C dx [])) (fun v H2 => v = .non ∧ Q (.ref x) H2) E) : tMake C sp dvs E t σ H Q := k
instance ru_make {C : Addr} {sp : Sp} {dvs : List V} {E : XK} {t : TA} {σ : St} {H : Hp} {Q : VK} : Ru (tMake C sp dvs E t σ H Q) (t σ H fun vs H1 => ∀ x dx, H1 x = none → H1 dx = none → dx ≠ x → sp (.ref x :: (vs ++ dvs)) (upd (upd H1 dx (.own x)) x (.ins C dx [])) (fun v H2 => v = .non ∧ Q (.ref x) H2) E) := ⟨r_make⟩
end Hg
end L2
end

section
set_option Elab.async false
set_option linter.all false
set_option maxRecDepth 100000
set_option maxHeartbeats 4000000
/-! Methods and properties of own classes as one hypothesis; tuple * int; what stays of a heap. -/
namespace L2
namespace Hg
open PySem PySem.Spec PyProof.Rows

/-! ### methods -/
structure MetAt (K : PySem.W.Frag) (C : Addr) (m q : Str) (st : Stmt) : Prop where
  cl : Cls K C
  ex : ∃ f fd, Meth K C m f ∧ Fun K m q st f fd
def MetOk (P : Program) (w : World) (K : PySem.W.Frag) (mg : Str → Option Value) (base : Heap) (CX : CXT) (k : Nat) (C : Addr) (m : Str) (ps : List Str) (sp : Sp) : Prop :=
  Cls K C ∧ ∃ f fd, Meth K C m f ∧ FnOk P w K mg base CX k f fd ps sp ∧ Binds K fd ps []
structure PrpAt (K : PySem.W.Frag) (C : Addr) (m q : Str) (st : Stmt) : Prop where
  cl : Cls K C
  ex : ∃ p g fd, PropOf K C m p g ∧ Fun K m q st g fd
def PrpOk (P : Program) (w : World) (K : PySem.W.Frag) (mg : Str → Option Value) (base : Heap) (CX : CXT) (k : Nat) (C : Addr) (m : Str) (sp : Sp) : Prop :=
  Cls K C ∧ ∃ p g fd, PropOf K C m p g ∧ FnOk P w K mg base CX k g fd ["self"] sp ∧ Binds K fd ["self"] []
section
variable {P : Program} {w : World} {K : PySem.W.Frag} {mg : Str → Option Value} {base : Heap} {k : Nat} {m q : Str} {st : Stmt} {C : Addr} {N ps : List Str} {sp : Sp}
theorem MetAt.ok (F : MetAt K C m q st) (S : FnScope N ps (defScope st)) (hb : BindsAs st m q ps) (len : ∀ vs H Q E, sp vs H Q E → vs.length = ps.length)
    (hbody : ∀ (f : Addr) (cdv : Value) (A : Around) (outer : List Env) (s : Shared) (H : Hp) (vs : List V) (Q : VK) (E : XK), Room k (A.deeper (envOfC q (defScope st) s.heap.objs.size f cdv)) → sp vs H Q E →
      ∃ t, PSs (cxOf CX0 P w K mg base N q (defScope st) f cdv A outer s H E).nox (defBody st) t ∧ t { nx := fun _ H' => Q .non H', rt := Q } (start N vs) H) : MetOk P w K mg base CX0 (k + 1) C m ps sp := by
  obtain ⟨f, fd, hm, F1⟩ := F.ex
  exact ⟨F.cl, f, fd, hm, F1.ok S len fun cdv A outer s H vs Q E hr h => hbody f cdv A outer s H vs Q E hr h, F1.binds hb⟩
theorem PrpAt.ok (F : PrpAt K C m q st) (S : FnScope N ["self"] (defScope st)) (hb : BindsAs st m q ["self"]) (len : ∀ vs H Q E, sp vs H Q E → vs.length = 1)
    (hbody : ∀ (f : Addr) (cdv : Value) (A : Around) (outer : List Env) (s : Shared) (H : Hp) (vs : List V) (Q : VK) (E : XK), Room k (A.deeper (envOfC q (defScope st) s.heap.objs.size f cdv)) → sp vs H Q E →
      ∃ t, PSs (cxOf CX0 P w K mg base N q (defScope st) f cdv A outer s H E).nox (defBody st) t ∧ t { nx := fun _ H' => Q .non H', rt := Q } (start N vs) H) : PrpOk P w K mg base CX0 (k + 1) C m sp := by
  obtain ⟨p, f, fd, hm, F1⟩ := F.ex
  exact ⟨F.cl, p, f, fd, hm, F1.ok S len fun cdv A outer s H vs Q E hr h => hbody f cdv A outer s H vs Q E hr h, F1.binds hb⟩
end
section
variable {X : Cx} {CX : CXT} {k : Nat} {C : Addr} {m : Str} {ps : List Str} {sp : Sp} {E : XK} {ES : St → XK} {o e : Expr} {es : List Expr} {ta : TE} {t : TA} {apos pos : Pos}
/-- o.m(e, ..) where what is raised is wished at the slots -/
def tMetS (C : Addr) (m : Str) (sp : Sp) (E : St → XK) (ta : TE) (t : TA) : TE := fun σ H Q => ta σ H fun x H1 => ∃ a dx fs, x = .ref a ∧ H1 a = some (.ins C dx fs) ∧ fs.lookup m = none ∧
  t σ H1 fun vs H2 => sp (x :: vs) H2 Q (E σ)
variable {σ : St} {H : Hp} {Q : VK} {dvs : List V}
theorem r_meth (k : ta σ H fun x H1 => ∃ a dx fs, x = .ref a ∧ H1 a = some (.ins C dx fs) ∧ fs.lookup m = none ∧ t σ H1 fun vs H2 => sp (x :: (vs ++ dvs)) H2 Q E) : tMeth C m sp dvs E ta t σ H Q := k
instance ru_meth  : Ru (tMeth C m sp dvs E ta t σ H Q) (ta σ H fun x H1 => ∃ a dx fs, x = .ref a ∧ H1 a = some (.ins C dx fs) ∧ fs.lookup m = none ∧ t σ H1 fun vs H2 => sp (x :: (vs ++ dvs)) H2 Q E) := ⟨r_meth⟩
theorem r_metS (k : ta σ H fun x H1 => ∃ a dx fs, x = .ref a ∧ H1 a = some (.ins C dx fs) ∧ fs.lookup m = none ∧ t σ H1 fun vs H2 => sp (x :: vs) H2 Q (ES σ)) : tMetS C m sp ES ta t σ H Q := k
instance ru_metS  : Ru (tMetS C m sp ES ta t σ H Q) (ta σ H fun x H1 => ∃ a dx fs, x = .ref a ∧ H1 a = some (.ins C dx fs) ∧ fs.lookup m = none ∧ t σ H1 fun vs H2 => sp (x :: vs) H2 Q (ES σ)) := ⟨r_metS⟩
theorem r_prop (k : ta σ H fun x H1 => ∃ a dx fs, x = .ref a ∧ H1 a = some (.ins C dx fs) ∧ sp (.ref a :: dvs) H1 Q E) : tProp C sp dvs E ta σ H Q := k
instance ru_prop  : Ru (tProp C sp dvs E ta σ H Q) (ta σ H fun x H1 => ∃ a dx fs, x = .ref a ∧ H1 a = some (.ins C dx fs) ∧ sp (.ref a :: dvs) H1 Q E) := ⟨r_prop⟩
/-! ### stars, parallel stores -/
variable {K : PySem.W.Frag} {te : TE} {QL : List V → Hp → Prop} {D : Ends} {i j l : Nat}
theorem r_star (k : te σ H fun x H1 => ∃ p xs, x = V.ref p ∧ (SqT K H1 p xs ∨ SqL K H1 p xs) ∧ t σ H1 fun ys H2 => QL (xs ++ ys) H2) : StX.tStar K te t σ H QL := k
instance ru_star  : Ru (StX.tStar K te t σ H QL) (te σ H fun x H1 => ∃ p xs, x = V.ref p ∧ (SqT K H1 p xs ∨ SqL K H1 p xs) ∧ t σ H1 fun ys H2 => QL (xs ++ ys) H2) := ⟨r_star⟩
theorem r_par (k : t σ H fun vs H1 => ∃ v w, vs = [v, w] ∧ D.nx ((σ.set i (some v)).set j (some w)) H1) : tPar i j t D σ H := k
instance ru_par  : Ru (tPar i j t D σ H) (t σ H fun vs H1 => ∃ v w, vs = [v, w] ∧ D.nx ((σ.set i (some v)).set j (some w)) H1) := ⟨r_par⟩
theorem r_par3 (k : t σ H fun vs H1 => ∃ u v w, vs = [u, v, w] ∧ D.nx (((σ.set i (some u)).set j (some v)).set l (some w)) H1) : tPar3 i j l t D σ H := k
instance ru_par3  : Ru (tPar3 i j l t D σ H) (t σ H fun vs H1 => ∃ u v w, vs = [u, v, w] ∧ D.nx (((σ.set i (some u)).set j (some v)).set l (some w)) H1) := ⟨r_par3⟩
theorem r_v2 {v w : V} {R : V → V → Prop} (k : R v w) : ∃ v' w', [v, w] = [v', w'] ∧ R v' w' := ⟨v, w, rfl, k⟩
instance ru_v2 {v w : V} {R : V → V → Prop} : Ru (∃ v' w', [v, w] = [v', w'] ∧ R v' w') (R v w) := ⟨r_v2⟩
theorem r_v3 {u v w : V} {R : V → V → V → Prop} (k : R u v w) : ∃ u' v' w', [u, v, w] = [u', v', w'] ∧ R u' v' w' := ⟨u, v, w, rfl, k⟩
instance ru_v3 {u v w : V} {R : V → V → V → Prop} : Ru (∃ u' v' w', [u, v, w] = [u', v', w'] ∧ R u' v' w') (R u v w) := ⟨r_v3⟩
/-! ### slices -/
variable {r : V → Option Int → Option Int → Hp → VK → Prop} {tl th : TO} {QO : Option Int → Hp → Prop}
theorem r_sl (k : te σ H fun x H1 => tl σ H1 fun l H2 => th σ H2 fun u H3 => r x l u H3 Q) : tSl r te tl th σ H Q := k
instance ru_sl  : Ru (tSl r te tl th σ H Q) (te σ H fun x H1 => tl σ H1 fun l H2 => th σ H2 fun u H3 => r x l u H3 Q) := ⟨r_sl⟩
theorem r_part (k : te σ H fun x H1 => ∃ i, x = .int i ∧ QO (some i) H1) : tPart te σ H QO := k
instance ru_part  : Ru (tPart te σ H QO) (te σ H fun x H1 => ∃ i, x = .int i ∧ QO (some i) H1) := ⟨r_part⟩
theorem r_noPart (k : QO none H) : tNoPart σ H QO := k
instance ru_noPart  : Ru (tNoPart σ H QO) (QO none H) := ⟨r_noPart⟩
theorem r_i {n : Int} {R : Int → Prop} (k : R n) : ∃ i, V.int n = .int i ∧ R i := ⟨n, rfl, k⟩
instance ru_i {n : Int} {R : Int → Prop} : Ru (∃ i, V.int n = .int i ∧ R i) (R n) := ⟨r_i⟩
end
/-! ### cuts -/
/-! ### tuple * int -/
/-! ### what stays -/
/-- all tuples stay -/
def Tk (H H' : Hp) : Prop := ∀ q xs, H q = some (.tup xs) → H' q = some (.tup xs)
section
variable {H0 H H' H1 H2 : Hp} {p b a : Addr} {o : HO}
theorem Tk.refl : Tk H H := fun _ _ h => h
theorem Tk.trans (h : Tk H H1) (g : Tk H1 H2) : Tk H H2 := fun q xs e => g q xs (h q xs e)
theorem Same.refl : Same H H := fun _ _ h => h
theorem Same.at (s : Same H H1) (h : H p = some o) : H1 p = some o := s p o h
theorem Same.tk (h : Same H H') : Tk H H' := fun q xs e => h q _ e
theorem Bx.tk (h : Bx b H H') (hb : BoxAt H b) : Tk H H' := fun q xs e => h.keep q _ (hb.ne e fun _ _ _ z => nomatch z) e
theorem Tk.new (h : Tk H0 H) (hp : H p = none) : Tk H0 (upd H p o) := fun q xs e => at_upd (ne_of_none (h q xs e) hp) (h q xs e)
theorem Tk.setL {xs : List V} (h : Tk H0 H) (hp : H p = some (.lst xs)) : Tk H0 (upd H p o) := fun q ys e => by
  have g := h q ys e
  refine at_upd (fun z => ?_) g
  subst z
  rw [hp] at g
  exact nomatch Option.some.inj g
theorem Tk.setI {C dx : Addr} {fs : List (Str × V)} (h : Tk H0 H) (hp : H p = some (.ins C dx fs)) : Tk H0 (upd H p o) := fun q ys e => by
  have g := h q ys e
  refine at_upd (fun z => ?_) g
  subst z
  rw [hp] at g
  exact nomatch Option.some.inj g
theorem Same.updF (s : Same H0 H) (h : H0 p = none) : Same H0 (upd H p o) := fun q u e => at_upd (ne_of_none e h) (s q u e)
theorem Same.new (s : Same H0 H) (h : H p = none) : Same H0 (upd H p o) := fun q u e => at_upd (ne_of_none (s q u e) h) (s q u e)
theorem Same.bx (s : Same H0 H) (hx : Bx b H H') (h : H0 b = none) : Same H0 H' := fun q u e => hx.keep q u (ne_of_none e h) (s q u e)
theorem Same.free (s : Same H0 H) (h : H p = none) : H0 p = none := by
  cases e : H0 p with
  | none => rfl
  | some u => rw [s p u e] at h; cases h
theorem BoxAt.same (h : BoxAt H b) (s : Same H H') : BoxAt H' b := let ⟨x, y, z, q⟩ := h; ⟨x, y, z, s _ _ q⟩
theorem BoxAt.at (h : BoxAt H b) (n : b ≠ p) : BoxAt (L2.upd H p o) b := let ⟨x, y, z, q⟩ := h; ⟨x, y, z, at_upd n q⟩
/-- all stays but x -/
def Kx (x : Addr) (H H' : Hp) : Prop := ∀ q o, q ≠ x → H q = some o → H' q = some o
theorem Kx.at (k : Kx a H H') (n : p ≠ a) (h : H p = some o) : H' p = some o := k p o n h
theorem Kx.refl : Kx a H H := fun _ _ _ h => h
theorem Kx.trans (h : Kx a H H1) (g : Kx a H1 H2) : Kx a H H2 := fun q o n e => g q o n (h q o n e)
theorem Kx.set (h : Kx a H H1) : Kx a H (upd H1 a o) := fun q u n e => at_upd n (h q u n e)
theorem Kx.new (h : Kx a H H1) (hp : H p = none) : Kx a H (upd H1 p o) := fun q u n e => at_upd (ne_of_none e hp) (h q u n e)
theorem Kx.same (h : Kx a H H1) (s : Same H1 H2) : Kx a H H2 := fun q u n e => s q u (h q u n e)
theorem Same.kx (s : Same H0 H) (k : Kx a H H') (h : H0 a = none) : Same H0 H' := fun q u e => k q u (ne_of_none e h) (s q u e)
theorem Kx.tk {C dx : Addr} {fs : List (Str × V)} (k : Kx a H H') (hp : H a = some (.ins C dx fs)) : Tk H H' := fun q ys e => k q _ (fun z => by
  subst z
  rw [hp] at e
  exact nomatch Option.some.inj e) e
theorem ne_kind {u : HO} (h : H p = some o) (g : H a = some u) (n : o ≠ u) : p ≠ a := fun e => by
  subst e
  rw [h] at g
  exact n (Option.some.inj g)
theorem Same.seqL {K : PySem.W.Frag} {l : Addr} {xs : List V} (s : Same H H') (q : SqL K H l xs) : SqL K H' l xs := by
  rcases q with (q | ⟨u, q⟩) | q
  · exact .inl (.inl (s _ _ q))
  · exact .inl (.inr ⟨u, s _ _ q⟩)
  · exact .inr q
end
end Hg
end L2
end

section
set_option Elab.async false
set_option linter.all false
set_option maxRecDepth 100000
set_option maxHeartbeats 4000000
/-! The end of a law's row from a promise that is asked where no guard is set. -/
namespace L2
namespace Hg
open PySem PySem.Spec PyProof.Rows

theorem law_callG {P : Program} {w : World} {K : PySem.W.Frag} {mg mb : Str → Option Value} {k : Nat} {fa a : Addr} {nm x : Str} {sp : Sp} {s₁ : Shared} {vs : List Value} {ns : List Int}
    (KX : K.In s₁.heap) (hns : s₁.heap.Ns mainGlobals mg) (hb : s₁.heap.Ns builtinsNs mb) (hbb : ∀ x : Str, x ≠ "__name__" → mb x = bootBuiltins x) (hlim : s₁.heap.NoLimit) (hg : s₁.gens = #[])
    (ha : s₁.heap.get? a = some { cls := .type "list", data := .seq vs.toArray }) (hi : IntsAre vs ns) (hl : ns.length ≤ sizeLine) (hr : Room k callerA)
    (hmg : mg nm = some (.ref fa)) (F : ∀ base : Heap, K.In base → base.Ns mainGlobals mg → DefG P w K mg base CX0 k nm [x] sp)
    (hsp : ∀ H : Hp, SqL K H a (ns.map V.int) → sp [.ref a] H (fun v _ => v = .bl true) fun _ _ _ => False) :
    codeAny (model P w) callerA (.call (.ref fa) ⟨[.ref a], []⟩) (fun r s' => r = .ok (.ret (.bool true)) ∧ OldK s₁.heap s'.heap ∧ s'.os = s₁.os ∧ AllBare s'.gens) s₁ := by
  have rv := vals_ints hi
  have lenV := hi.length
  have core : ∀ H : Hp, Only H → SqL K H a (ns.map V.int) → HOk P w H s₁.heap → (∀ b, H b ≠ none → b = a) → (H a ≠ none → K.lookup a = none) →
      codeAny (model P w) callerA (.call (.ref fa) ⟨[.ref a], []⟩) (fun r s' => r = .ok (.ret (.bool true)) ∧ OldK s₁.heap s'.heap ∧ s'.os = s₁.os ∧ AllBare s'.gens) s₁ := by
    intro H hO hS hok hA hK
    have only : ∀ {b : Addr}, H b ≠ none → b = a := fun {b} n => hA b n
    have hidK : ∀ {b : Addr} {o : Obj}, s₁.heap.get? b = some o → H b = none → (hidT s₁.heap H).get? b = some o := fun z n => hidT_get z n
    have noDict : ∀ {b : Addr} {o : Obj} {es : Array DictEntry} {ep : Nat}, s₁.heap.get? b = some o → o.data = .dict es ep → H b = none := by
      intro b o es ep z d
      cases q : H b with
      | none => rfl
      | some u =>
        obtain rfl : b = a := only (by rw [q]; simp)
        rw [ha] at z
        cases z
        cases (show Data.seq vs.toArray _ = Data.dict es ep from d)
    have nsK : ∀ {b : Addr} {m : Str → Option Value}, s₁.heap.Ns b m → (hidT s₁.heap H).Ns b m := by
      rintro b m ⟨o, es, ep, z, d, r⟩
      exact ⟨o, es, ep, hidK z (noDict z d), d, r⟩
    have hKb : K.In (hidT s₁.heap H) := by
      intro b o z
      refine hidK (KX b o z) ?_
      cases q : H b with
      | none => rfl
      | some u =>
        obtain rfl : b = a := only (by rw [q]; simp)
        rw [hK (by rw [q]; simp)] at z
        cases z
    have hM : Mod K mg (hidT s₁.heap H) := by
      obtain ⟨mc, h1, h2⟩ := hlim
      exact ⟨hKb, nsK hns, ⟨mb, nsK hb, hbb⟩, ⟨mc, nsK h1, h2⟩⟩
    have e0 : Env0 P w K mg (hidT s₁.heap H) callerA [] s₁ H := by
      refine ⟨rfl, hM, fun b o z => of_hidT z, Nat.le_of_eq (hidT_size _ _), trivial, fun b hb => ?_, hok, .of_eq hg⟩
      cases (show b ∈ ([] : List Addr) from hb)
    obtain ⟨f, fd, hm, _, FG, hbind⟩ := F _ hKb (nsK hns)
    rw [hmg] at hm
    cases hm
    have main := FG.run callerA [] s₁ H ⟨[.ref a], []⟩ [.ref a] [.ref a] _ _ rfl hr e0 (hbind s₁ [.ref a] KX rfl) (.cons rfl .nil) (hsp H hS)
    refine codeAny_mono main fun r s' h => ?_
    cases r with
    | error e => exact False.elim h
    | ok fl =>
      cases fl with
      | next => exact False.elim h
      | brk => exact False.elim h
      | cont => exact False.elim h
      | ret u =>
        obtain ⟨v, H', os, bare, un, hok', r', q⟩ := h
        obtain rfl : v = .bl true := q
        obtain rfl : u = Value.bool true := r'
        refine ⟨rfl, OldK.of_keep fun b o z => ?_, os, bare⟩
        cases q : H b with
        | none => exact un.keep b o z q (fun y => by cases (show b ∈ ([] : List Addr) from y)) (by simp)
        | some u =>
          rcases hO b with y | ⟨ob, xs, y⟩
          · rw [q] at y; cases y
          · obtain ⟨e1, _⟩ := hok b _ y
            obtain ⟨e2, _⟩ := hok' b _ (un.frzs b ob _ y)
            rw [z] at e1
            cases e1
            exact e2
  cases hk : K.lookup a with
  | some o =>
    have z := KX a o hk
    rw [ha] at z
    cases z
    refine core (fun _ => none) (fun _ => .inl rfl) (.inr ⟨_, vs.toArray, _, hk, rfl, rfl, rfl, ?_, by simpa using rv⟩) (fun b u y => ?_) (fun b y => absurd rfl y) fun y => absurd rfl y
    · rw [List.size_toArray, lenV]; exact hl
    · cases (show (none : Option HO) = some u from y)
  | none =>
    let ob : Obj := { cls := .type "list", data := .seq vs.toArray }
    refine core (fun b => if b = a then some (.frz ob (.lst (ns.map V.int))) else none) (fun b => ?_) (.inl (.inr ⟨ob, if_pos rfl⟩)) (fun b u y => ?_) (fun b y => ?_) fun _ => hk
    · by_cases e : b = a
      · exact .inr ⟨_, _, if_pos e⟩
      · exact .inl (if_neg e)
    · by_cases e : b = a
      · have y' := (if_pos e).symm.trans y
        cases y'
        subst e
        exact ⟨ha, by rw [List.length_map]; exact hl, vs, _, rv, ha⟩
      · have y' := (if_neg e).symm.trans y
        cases y'
    · by_cases e : b = a
      · exact e
      · exact absurd (if_neg e) y

theorem walk_ofG {l : PySem.W.OpenLaw} {n k : Nat} {q : Program} {loose : List Str} {XP : (Str → Option Value) → Heap → Prop} {YP : World → Heap → Prop} {d : DefRec} {K : Params → PySem.W.Frag} {sp : PySem.W.Frag → Sp} {x : Str}
    (hn : l.most = some n) (hn2 : n ≤ sizeLine) (hdf : d.params.defaults = []) (hr : Room k callerA)
    (hY : ∀ (w : World) (h : Heap), YP w h → (K w.params).In h)
    (F : ∀ (w : World) (mg : Str → Option Value) (h : Heap), (K w.params).In h → h.Ns mainGlobals mg →
      ∀ base : Heap, (K w.params).In base → base.Ns mainGlobals mg → DefG l.prog w (K w.params) mg base CX0 k d.name [x] (sp (K w.params)))
    (hsp : ∀ (K : PySem.W.Frag) (H : Hp) (a : Addr) (ns : List Int), ns.length ≤ n → SqL K H a (ns.map V.int) → sp K [.ref a] H (fun v _ => v = .bl true) fun _ _ _ => False) :
    PySem.W.WalkO q loose XP YP l.row.toRowW d [] (fun f vs => PySem.call f vs) := by
  refine Att.attach_call hn hdf fun w s₀ s₁ mg mb fa o pm cd doc a vs ns G Y ho hd hcd hmg hobj hints hlen hg => ?_
  exact law_callG (hY w _ Y) G.T.g G.T.b G.T.builtins G.T.nolimit hg hobj hints (Nat.le_trans hlen hn2) hr hmg (F w mg _ (hY w _ Y) G.T.g) fun H hS => hsp (K w.params) H a ns hlen hS
end Hg
end L2
end

section
set_option Elab.async false
set_option linter.all false
set_option maxRecDepth 100000
set_option maxHeartbeats 4000000
/-! Iterables that are a list or a tuple; attributes as targets; dicts: comprehensions, keys, members. -/
namespace L2
namespace Hg
open PySem PySem.Spec PyProof.Rows
def uAt (K : PySem.W.Frag) (x : V) (H1 : Hp) (R : It → Hp → Prop) : Prop := ∃ a, x = .ref a ∧ (((∃ xs, SqL K H1 a xs) ∧ R (Itl K a) H1) ∨ ((∃ xs, SqT K H1 a xs) ∧ R (Itt K a) H1))
/-- a list or a tuple -/
def uIter (K : PySem.W.Frag) (te : TE) : TI := fun σ H R => te σ H fun x H1 => uAt K x H1 R
section
variable {X : Cx} {tg l o : Expr} {tl ta : TE} {f : Str} {pos : Pos}
theorem r_iU {K : PySem.W.Frag} {te : TE} {σ : St} {H : Hp} {R : It → Hp → Prop} (k : te σ H fun x H1 => uAt K x H1 R) : uIter K te σ H R := k
instance ru_iU {K : PySem.W.Frag} {te : TE} {σ : St} {H : Hp} {R : It → Hp → Prop} : Ru (uIter K te σ H R) (te σ H fun x H1 => uAt K x H1 R) := ⟨r_iU⟩
/-! ### o.f as a target -/
def gFld (K : PySem.W.Frag) (ta : TE) (f : Str) : TG := fun v σ H QS => ta σ H fun x H2 => ∃ a C dx fs, x = .ref a ∧ H2 a = some (.ins C dx fs) ∧ Cls K C ∧ NoAttr K C f ∧ fs.length < 1000 ∧ QS σ (upd H2 a (.ins C dx (putF f v fs)))
theorem r_gFld {K : PySem.W.Frag} {v : V} {σ : St} {H : Hp} {QS : St → Hp → Prop} (k : ta σ H fun x H2 => ∃ a C dx fs, x = .ref a ∧ H2 a = some (.ins C dx fs) ∧ Cls K C ∧ NoAttr K C f ∧ fs.length < 1000 ∧ QS σ (upd H2 a (.ins C dx (putF f v fs)))) : gFld K ta f v σ H QS := k
instance ru_gFld {K : PySem.W.Frag} {v : V} {σ : St} {H : Hp} {QS : St → Hp → Prop} : Ru (gFld K ta f v σ H QS) (ta σ H fun x H2 => ∃ a C dx fs, x = .ref a ∧ H2 a = some (.ins C dx fs) ∧ Cls K C ∧ NoAttr K C f ∧ fs.length < 1000 ∧ QS σ (upd H2 a (.ins C dx (putF f v fs)))) := ⟨r_gFld⟩
end
/-! ### dicts -/
section
variable {σ : St} {H : Hp} {Q : VK} {QB : Bool → Hp → Prop} {td ty : TE}
theorem r_keys {R : It → Hp → Prop} (k : td σ H fun x H1 => ∃ d o, x = .ref d ∧ ((∃ kvs, H1 d = some (.frz o (.dK kvs)) ∧ R (Itk d o kvs) H1) ∨ ∃ kvs, H1 d = some (.frz o (.dT kvs)) ∧ R (Itkt d o kvs) H1)) : iKeys td σ H R := k
instance ru_keys {R : It → Hp → Prop} : Ru (iKeys td σ H R) (td σ H fun x H1 => ∃ d o, x = .ref d ∧ ((∃ kvs, H1 d = some (.frz o (.dK kvs)) ∧ R (Itk d o kvs) H1) ∨ ∃ kvs, H1 d = some (.frz o (.dT kvs)) ∧ R (Itkt d o kvs) H1)) := ⟨r_keys⟩
theorem r_din (k : ty σ H fun y H1 => td σ H1 fun x H2 => ∃ a o, x = .ref a ∧ DGet H2 a y o ∧ Q (.bl o.isSome) H2) : tDIn ty td σ H Q := k
instance ru_din  : Ru (tDIn ty td σ H Q) (ty σ H fun y H1 => td σ H1 fun x H2 => ∃ a o, x = .ref a ∧ DGet H2 a y o ∧ Q (.bl o.isSome) H2) := ⟨r_din⟩
theorem r_dc {wi : TI} {g : TG} {tt : TT} {tk tv : TE} {vs : List Nat} (k : wi σ H fun J H1 => ∀ D, H1 D = none → ∃ W : Nat → Nat → Hp → Prop, (∃ m, W 0 m (upd H1 D (.dK []))) ∧ ∀ i m H, W i m H →
  (J.stop i H ∧ Q (.ref D) H) ∨ (J.go i H ∧ ∃ Nx : Hp → Prop, (∀ H', Nx H' → ∃ m', m' < m ∧ W (i + 1) m' H') ∧ ∀ x H', J.yld i H x H' → g x (wipe σ vs) H' fun σ2 H2 => wipe σ2 vs = wipe σ vs ∧ tt σ2 H2 fun b H3 =>
    if b = true then tk σ2 H3 fun y H4 => tv σ2 H4 fun z H5 => ∃ kvs k, y = kV k ∧ H5 D = some (.dK kvs) ∧ kvs.length < sizeLine ∧ Nx (upd H5 D (.dK (putK kvs k z))) else Nx H3)) : tDc wi g tt tk tv vs σ H Q := k
instance ru_dc {wi : TI} {g : TG} {tt : TT} {tk tv : TE} {vs : List Nat} : Ru (tDc wi g tt tk tv vs σ H Q) (wi σ H fun J H1 => ∀ D, H1 D = none → ∃ W : Nat → Nat → Hp → Prop, (∃ m, W 0 m (upd H1 D (.dK []))) ∧ ∀ i m H, W i m H → (J.stop i H ∧ Q (.ref D) H) ∨ (J.go i H ∧ ∃ Nx : Hp → Prop, (∀ H', Nx H' → ∃ m', m' < m ∧ W (i + 1) m' H') ∧ ∀ x H', J.yld i H x H' → g x (wipe σ vs) H' fun σ2 H2 => wipe σ2 vs = wipe σ vs ∧ tt σ2 H2 fun b H3 => if b = true then tk σ2 H3 fun y H4 => tv σ2 H4 fun z H5 => ∃ kvs k, y = kV k ∧ H5 D = some (.dK kvs) ∧ kvs.length < sizeLine ∧ Nx (upd H5 D (.dK (putK kvs k z))) else Nx H3)) := ⟨r_dc⟩
end
theorem r_xf {a C : Addr} {cls : Value} {d : Option Addr} {f : Str} {te : TE} {σ : St} {H : Hp} {Q : VK} (k : te σ H fun x H1 => x = .ref a ∧ cls = .ref C ∧ ∃ (dd : Addr) (fs : List (Str × V)) (v : V), d = some dd ∧ H1 dd = some (.xd fs) ∧ fs.lookup f = some v ∧ Q v H1) : tXf a cls d C f te σ H Q := k
instance ru_xf {a C : Addr} {cls : Value} {d : Option Addr} {f : Str} {te : TE} {σ : St} {H : Hp} {Q : VK} : Ru (tXf a cls d C f te σ H Q) (te σ H fun x H1 => x = .ref a ∧ cls = .ref C ∧ ∃ (dd : Addr) (fs : List (Str × V)) (v : V), d = some dd ∧ H1 dd = some (.xd fs) ∧ fs.lookup f = some v ∧ Q v H1) := ⟨r_xf⟩
theorem r_bm {K : PySem.W.Frag} {T : String} {r : V → List V → Hp → VK → Prop} {to : TE} {t : TA} {σ : St} {H : Hp} {Q : VK} (k : to σ H fun x H1 => tyV K T x H1 ∧ t σ H1 fun xs H2 => r x xs H2 Q) : tBM K T r to t σ H Q := k
instance ru_bm {K : PySem.W.Frag} {T : String} {r : V → List V → Hp → VK → Prop} {to : TE} {t : TA} {σ : St} {H : Hp} {Q : VK} : Ru (tBM K T r to t σ H Q) (to σ H fun x H1 => tyV K T x H1 ∧ t σ H1 fun xs H2 => r x xs H2 Q) := ⟨r_bm⟩
/-! ### a name that is a dict comprehension -/
section
variable {X : Cx}
end
end Hg
end L2
end

section
set_option Elab.async false
set_option linter.all false
set_option maxRecDepth 100000
set_option maxHeartbeats 4000000
/-! Operators of own classes: a op b, -a, x in a, a == b, a[i], a as a test. -/
namespace L2
namespace Hg
open PySem PySem.Spec PyProof.Rows
section
variable {X : Cx} {CX : CXT} {k : Nat} {C : Addr} {ps : List Str} {sp : Sp} {E : XK}
/-- a as a test, by its `__bool__` -/
def rTruOwn (C : Addr) (sp : Sp) (E : XK) : V → Hp → (Bool → Hp → Prop) → Prop := fun x H Q => ∃ (a dx : Addr) (fs : List (Str × V)), x = .ref a ∧ H a = some (.ins C dx fs) ∧ sp [x] H (fun v H' => ∃ c, v = .bl c ∧ Q c H') E
end
section
variable {X : Cx} {k : Nat} {C : Addr} {ps : List Str} {sp : Sp}
end
end Hg
end L2
end

section
set_option Elab.async false
set_option linter.all false
set_option maxRecDepth 100000
set_option maxHeartbeats 4000000
/-! a == b where b is of any kind; str(a) by an own `__str__`; a[i] by an own `__getitem__`; joined texts. -/
namespace L2
namespace Hg
open PySem PySem.Spec PyProof.Rows
section
variable {X : Cx} {CX : CXT} {k : Nat} {C : Addr} {ps : List Str} {sp : Sp} {E : XK} {pins : List (Addr × Obj)} {σ : St} {H : Hp} {s : Shared}
end
/-! ### a as a test -/
def tTrO (C : Addr) (sp : Sp) (E : XK) (ta : TE) : TT := fun σ H Q => ta σ H fun x H' => rTruOwn C sp E x H' Q
theorem r_trO {C : Addr} {sp : Sp} {E : XK} {ta : TE} {σ : St} {H : Hp} {Q : Bool → Hp → Prop} (k : ta σ H fun x H' => rTruOwn C sp E x H' Q) : tTrO C sp E ta σ H Q := k
instance ru_trO {C : Addr} {sp : Sp} {E : XK} {ta : TE} {σ : St} {H : Hp} {Q : Bool → Hp → Prop} : Ru (tTrO C sp E ta σ H Q) (ta σ H fun x H' => rTruOwn C sp E x H' Q) := ⟨r_trO⟩
/-! ### bool(a) by an own `__bool__` -/
open Builtin in
section
variable {X : Cx} {k : Nat} {C : Addr} {ps : List Str} {sp : Sp} {H : Hp}
end
/-! ### a[i] by an own `__getitem__` -/
def tSubO (C : Addr) (sp : Sp) (E : St → XK) (ta tb : TE) : TE := fun σ H Q => ta σ H fun x H1 => tb σ H1 fun y H2 => ∃ (a dx : Addr) (fs : List (Str × V)), x = .ref a ∧ H2 a = some (.ins C dx fs) ∧ sp [x, y] H2 Q (E σ)
section
variable {X : Cx} {CX : CXT} {k : Nat} {C : Addr} {ps : List Str} {sp : Sp} {E : St → XK} {a b : Expr} {ta tb : TE} {pos : Pos} {σ : St} {H : Hp} {Q : VK}
theorem r_subO (k : ta σ H fun x H1 => tb σ H1 fun y H2 => ∃ (a dx : Addr) (fs : List (Str × V)), x = .ref a ∧ H2 a = some (.ins C dx fs) ∧ sp [x, y] H2 Q (E σ)) : tSubO C sp E ta tb σ H Q := k
instance ru_subO  : Ru (tSubO C sp E ta tb σ H Q) (ta σ H fun x H1 => tb σ H1 fun y H2 => ∃ (a dx : Addr) (fs : List (Str × V)), x = .ref a ∧ H2 a = some (.ins C dx fs) ∧ sp [x, y] H2 Q (E σ)) := ⟨r_subO⟩
end
/-! ### str of ints and texts, joined texts -/
section
variable {X : Cx} {σ : St} {H : Hp} {Q : VK}
def tFs (ts : List TE) : TE := fun σ H Q => tJs ts Str.empty σ H fun out H1 => Q (.str out) H1
theorem r_fs {ts : List TE} (k : tJs ts Str.empty σ H fun out H1 => Q (.str out) H1) : tFs ts σ H Q := k
instance ru_fs {ts : List TE} : Ru (tFs ts σ H Q) (tJs ts Str.empty σ H fun out H1 => Q (.str out) H1) := ⟨r_fs⟩
variable {QS : Str → Hp → Prop} {acc : Str} {t : TE} {ts : List TE} {te to : TE}
theorem r_js (k : t σ H fun x H1 => ∃ y, x = .str y ∧ (acc ++ y).length ≤ sizeLine ∧ tJs ts (acc ++ y) σ H1 QS) : tJs (t :: ts) acc σ H QS := k
instance ru_js  : Ru (tJs (t :: ts) acc σ H QS) (t σ H fun x H1 => ∃ y, x = .str y ∧ (acc ++ y).length ≤ sizeLine ∧ tJs ts (acc ++ y) σ H1 QS) := ⟨r_js⟩
theorem r_js0 (k : QS acc H) : tJs [] acc σ H QS := k
instance ru_js0  : Ru (tJs [] acc σ H QS) (QS acc H) := ⟨r_js0⟩
theorem r_fmt (k : te σ H fun x H1 => (∃ y : Str, x = .str y ∧ y.length ≤ sizeLine ∧ Q (.str y) H1) ∨ ∃ i : Int, x = .int i ∧ i.natAbs.log2 < 1920 ∧ Q (.str (toString i)) H1) : tFmt te σ H Q := k
instance ru_fmt  : Ru (tFmt te σ H Q) (te σ H fun x H1 => (∃ y : Str, x = .str y ∧ y.length ≤ sizeLine ∧ Q (.str y) H1) ∨ ∃ i : Int, x = .int i ∧ i.natAbs.log2 < 1920 ∧ Q (.str (toString i)) H1) := ⟨r_fmt⟩
theorem r_bm0 {K : PySem.W.Frag} {T : String} {r : V → List V → Hp → VK → Prop} (k : to σ H fun x H1 => tyV K T x H1 ∧ r x [] H1 Q) : tBM0 K T r to σ H Q := k
instance ru_bm0 {K : PySem.W.Frag} {T : String} {r : V → List V → Hp → VK → Prop} : Ru (tBM0 K T r to σ H Q) (to σ H fun x H1 => tyV K T x H1 ∧ r x [] H1 Q) := ⟨r_bm0⟩
theorem r_m1 {r : V → List V → Hp → VK → Prop} (k : to σ H fun x H1 => (∃ a, x = .str a) ∧ te σ H1 fun y H2 => r x [y] H2 Q) : tM1 r to te σ H Q := k
instance ru_m1 {r : V → List V → Hp → VK → Prop} : Ru (tM1 r to te σ H Q) (to σ H fun x H1 => (∃ a, x = .str a) ∧ te σ H1 fun y H2 => r x [y] H2 Q) := ⟨r_m1⟩
theorem r_isS {z : Str} {R : Prop} (k : R) : (∃ a, V.str z = .str a) ∧ R := ⟨⟨z, rfl⟩, k⟩
instance ru_isS {z : Str} {R : Prop} : Ru ((∃ a, V.str z = .str a) ∧ R) (R) := ⟨r_isS⟩
end
end Hg
end L2
end

section
set_option Elab.async false
set_option linter.all false
set_option maxRecDepth 100000
set_option maxHeartbeats 4000000
/-! max(xs, key=int), max(a, b, key=int). -/
namespace L2
namespace Hg
open PySem PySem.Spec PyProof.Rows
/-- what the list of the best one so far holds -/
def BestAt (h : Heap) (S : Addr) : Option Int → Prop
  | none => ∃ c, h.get? S = some (seqObj "list" #[] c)
  | some M => ∃ c t u, h.get? S = some (seqObj "list" #[.int M t, .int M u] c)
theorem BestAt.keep {h h' : Heap} {S : Addr} {b : Option Int} (k : ∀ o, h.get? S = some o → h'.get? S = some o) (x : BestAt h S b) : BestAt h' S b := by
  cases b with
  | none => obtain ⟨c, e⟩ := x; exact ⟨c, k _ e⟩
  | some M => obtain ⟨c, t, u, e⟩ := x; exact ⟨c, t, u, k _ e⟩
section
variable {prog : Program} {w : World} {A : Around} {s : Shared} {R : Result → Shared → Prop} {I S : Addr} {fp : List Addr} {n : Nat} {P : Nat → Value → Prop} {St : Nat → Heap → Prop} {ns : Nat → Int} {h0 : Heap}
end
section
variable {X : Cx}
end
end Hg
end L2
end

section
set_option Elab.async false
set_option linter.all false
set_option maxRecDepth 100000
set_option maxHeartbeats 4000000
/-! Classmethods by place and by name; a class called by a local name. -/
namespace L2
namespace Hg
open PySem PySem.Spec PyProof.Rows
structure CmAt (K : PySem.W.Frag) (C : Addr) (m q : Str) (st : Stmt) : Prop where
  ex : ∃ (mc : Value) (p g : Addr) (fd : FuncData), ClX.CRead K C mc ∧ ClX.CMet K C mc m p g ∧ Fun K m q st g fd
def CmOk (P : Program) (w : World) (K : PySem.W.Frag) (mg : Str → Option Value) (base : Heap) (CX : CXT) (k : Nat) (C : Addr) (m q : Str) (st : Stmt) (ps : List Str) (sp : Sp) : Prop :=
  ∃ (mc : Value) (p g : Addr) (fd : FuncData), ClX.CRead K C mc ∧ ClX.CMet K C mc m p g ∧ Fun K m q st g fd ∧ FnOk P w K mg base CX k g fd ps sp ∧ Binds K fd ps []
section
variable {P : Program} {w : World} {K : PySem.W.Frag} {mg : Str → Option Value} {base : Heap} {k : Nat} {m q : Str} {st : Stmt} {C : Addr} {N ps : List Str} {sp : Sp}
theorem CmAt.ok (F : CmAt K C m q st) (S : FnScope N ps (defScope st)) (hb : BindsAs st m q ps) (len : ∀ vs H Q E, sp vs H Q E → vs.length = ps.length)
    (hbody : ∀ (f : Addr) (cdv : Value) (A : Around) (outer : List Env) (s : Shared) (H : Hp) (vs : List V) (Q : VK) (E : XK), Room k (A.deeper (envOfC q (defScope st) s.heap.objs.size f cdv)) → sp vs H Q E →
      ∃ t, PSs (cxOf CX0 P w K mg base N q (defScope st) f cdv A outer s H E).nox (defBody st) t ∧ t { nx := fun _ H' => Q .non H', rt := Q } (start N vs) H) : CmOk P w K mg base CX0 (k + 1) C m q st ps sp := by
  obtain ⟨mc, p, f, fd, r, c, F1⟩ := F.ex
  exact ⟨mc, p, f, fd, r, c, F1, F1.ok S len fun cdv A outer s H vs Q E hr h => hbody f cdv A outer s H vs Q E hr h, F1.binds hb⟩
end
section
variable {X : Cx} {CX : CXT} {k : Nat} {C : Addr} {m q : Str} {st : Stmt} {ps : List Str} {sp : Sp} {E : XK} {o e : Expr} {es : List Expr} {kws : List Keyword} {pos apos p : Pos} {ta : TE} {t tk : TA} {pl : Sem Bool}
/-- C.m(e, ..) -/
def tCm (C : Addr) (sp : Sp) (E : XK) (ta : TE) (t : TA) : TE := fun σ H Q => ta σ H fun x H1 => x = .ref C ∧ t σ H1 fun vs H2 => sp (.ref C :: vs) H2 Q E
/-- C.m(e, ..) where what is raised is wished at the slots -/
def tCmS (C : Addr) (sp : Sp) (ES : St → XK) (ta : TE) (t : TA) : TE := fun σ H Q => ta σ H fun x H1 => x = .ref C ∧ t σ H1 fun vs H2 => sp (.ref C :: vs) H2 Q (ES σ)
variable {σ : St} {H : Hp} {Q : VK} {QL : List V → Hp → Prop}
theorem r_cmS {ES : St → XK} (k : ta σ H fun x H1 => x = .ref C ∧ t σ H1 fun vs H2 => sp (.ref C :: vs) H2 Q (ES σ)) : tCmS C sp ES ta t σ H Q := k
instance ru_cmS {ES : St → XK} : Ru (tCmS C sp ES ta t σ H Q) (ta σ H fun x H1 => x = .ref C ∧ t σ H1 fun vs H2 => sp (.ref C :: vs) H2 Q (ES σ)) := ⟨r_cmS⟩
theorem r_cm (k : ta σ H fun x H1 => x = .ref C ∧ t σ H1 fun vs H2 => sp (.ref C :: vs) H2 Q E) : tCm C sp E ta t σ H Q := k
instance ru_cm  : Ru (tCm C sp E ta t σ H Q) (ta σ H fun x H1 => x = .ref C ∧ t σ H1 fun vs H2 => sp (.ref C :: vs) H2 Q E) := ⟨r_cm⟩
theorem r_isC {R : Prop} (k : R) : V.ref C = .ref C ∧ R := ⟨rfl, k⟩
instance ru_isC {R : Prop} : Ru (V.ref C = .ref C ∧ R) (R) := ⟨r_isC⟩
/-! ### isinstance of a caught error, of several classes -/
/-! ### a class held by a local name -/
def tMakeL (i : Nat) (C : Addr) (sp : Sp) (dvs : List V) (E : XK) (t : TA) : TE := fun σ H Q => σ[i]? = some (some (.ref C)) ∧ tMakeS C sp dvs (fun _ => E) t σ H Q
theorem r_makeL {i : Nat} {dvs : List V} (hs : σ[i]? = some (some (.ref C))) (k : tMakeS C sp dvs (fun _ => E) t σ H Q) : tMakeL i C sp dvs E t σ H Q := ⟨hs, k⟩
instance rs_makeL {i : Nat} {dvs : List V} : Rs (tMakeL i C sp dvs E t σ H Q) := ⟨trivial⟩
/-! ### xs[::-1], keywords of built-ins -/
theorem r_revL {K : PySem.W.Frag} {te : TE} (k : te σ H fun x H1 => ∃ a xs, x = .ref a ∧ SqL K H1 a xs ∧ ∀ p, H1 p = none → Q (.ref p) (upd H1 p (.lst xs.reverse))) : tRevL K te σ H Q := k
instance ru_revL {K : PySem.W.Frag} {te : TE} : Ru (tRevL K te σ H Q) (te σ H fun x H1 => ∃ a xs, x = .ref a ∧ SqL K H1 a xs ∧ ∀ p, H1 p = none → Q (.ref p) (upd H1 p (.lst xs.reverse))) := ⟨r_revL⟩
theorem r_iStr {te : TE} {R : It → Hp → Prop} (k : te σ H fun v H1 => ∃ x, v = .str x ∧ R (Its x) H1) : iStr te σ H R := k
instance ru_iStr {te : TE} {R : It → Hp → Prop} : Ru (iStr te σ H R) (te σ H fun v H1 => ∃ x, v = .str x ∧ R (Its x) H1) := ⟨r_iStr⟩
theorem r_ckw {r : List V → List V → Hp → VK → Prop} (k : t σ H fun vs H1 => tk σ H1 fun zs H2 => r vs zs H2 Q) : tCKw r t tk σ H Q := k
instance ru_ckw {r : List V → List V → Hp → VK → Prop} : Ru (tCKw r t tk σ H Q) (t σ H fun vs H1 => tk σ H1 fun zs H2 => r vs zs H2 Q) := ⟨r_ckw⟩
end
end Hg
end L2
end

section
set_option Elab.async false
set_option linter.all false
set_option maxRecDepth 100000
set_option maxHeartbeats 4000000
/-! Own operators with ints on either side, own operators in place. -/
namespace L2
namespace Hg
open PySem PySem.Spec PyProof.Rows

section
variable {M : Model} {K : PySem.W.Frag} {C : Addr} {nm : String}
end
section
variable {prog : Program} {w : World} {A : Around} {E : Value → Shared → Prop} {s : Shared} {K : PySem.W.Frag} {x C L f : Addr} {h₀ : Heap} {m : Str → Option Value} {ox : Obj} {od : Option Obj}
open PySem.W PySem.Calls
end
/-! ### ints decline what is no int -/
section
variable {prog : Program} {w : World} {A : Around} {E : Value → Shared → Prop} {s : Shared}
end
section
variable {X : Cx} {CX : CXT} {k : Nat} {C : Addr} {ps : List Str} {sp : Sp} {E : XK}
/-! ### read -/
end
end Hg
end L2
end

section
set_option Elab.async false
set_option linter.all false
set_option maxRecDepth 100000
set_option maxHeartbeats 4000000
/-! d.update(e) of two dicts; [a, *d] of a dict's keys. -/
namespace L2
namespace Hg
open PySem PySem.Spec PyProof.Rows
section
variable {X : Cx}
end
end Hg
end L2
end

section
set_option Elab.async false
set_option linter.all false
set_option maxRecDepth 100000
set_option maxHeartbeats 4000000
/-! [a, *d] of a dict's keys. -/
namespace L2
namespace Hg
open PySem PySem.Spec PyProof.Rows
section
variable {prog : Program} {w : World} {A : Around} {E : Value → Shared → Prop} {s : Shared} {T : String} {r d : Addr} {n : Nat} {P : Nat → Value → Prop} {OK : Heap → Prop}
end
section
variable {X : Cx}
/-- *e in a display: a dict's keys -/
def tStarD (te : TE) (t : TA) : TA := fun σ H Q => te σ H fun x H1 => ∃ p kvs, x = V.ref p ∧ H1 p = some (.dK kvs) ∧ t σ H1 fun ys H2 => Q ((kvs.map fun kv => kV kv.1) ++ ys) H2
theorem r_starD {te : TE} {t : TA} {σ : L2.St} {H : Hp} {QL : List V → Hp → Prop} (k : te σ H fun x H1 => ∃ p kvs, x = V.ref p ∧ H1 p = some (.dK kvs) ∧ t σ H1 fun ys H2 => QL ((kvs.map fun kv => kV kv.1) ++ ys) H2) : tStarD te t σ H QL := k
instance ru_starD {te : TE} {t : TA} {σ : L2.St} {H : Hp} {QL : List V → Hp → Prop} : Ru (tStarD te t σ H QL) (te σ H fun x H1 => ∃ p kvs, x = V.ref p ∧ H1 p = some (.dK kvs) ∧ t σ H1 fun ys H2 => QL ((kvs.map fun kv => kV kv.1) ++ ys) H2) := ⟨r_starD⟩
end
end Hg
end L2
end

section
set_option Elab.async false
set_option linter.all false
set_option maxRecDepth 100000
set_option maxHeartbeats 4000000
/-! An own error held as a value: made by place and by name, its field read, isinstance of it. -/
namespace PySem.HgX
open PySem PySem.Spec PyProof.Rows PySem.HandSPX
section
variable {M : Model} {A : Around} {E : Value → Shared → Prop} {hp : Heap} {gs : Array GenState} {dr : Drawn} {tk : Nat} {oS : OsState}
variable {nm q : Str} {C N : Addr} {bs bm bmB : List Value} {hdct : Bool} {sn : List Str} {sub : List Value} {ab : Bool} {col : Option Bool} {dd : Option Addr} {k0 k1 k2 k3 k5 : Option Value} {B newId initId : String} {us : List Value} {kw : List (Str × Value)}
end
section
variable {pg : Program} {wd : World} {A : Around} {E : Value → Shared → Prop} {R : Result → Shared → Prop} {hp : Heap} {gs : Array GenState} {dr : Drawn} {tk : Nat} {oS : OsState}
variable {nm q : Str} {C N : Addr} {bs bm bmB : List Value} {hdct : Bool} {sn : List Str} {sub : List Value} {ab : Bool} {col : Option Bool} {dd : Option Addr} {k0 k1 k2 k3 k5 : Option Value} {B newId initId : String} {us : List Value} {kw : List (Str × Value)}
end
end PySem.HgX
namespace PySem.W
open PySem PySem.Spec PySem.Calls PyProof.Rows
section
variable {pg : Program} {wd : World} {A : Around} {E : Value → Shared → Prop} {s : Shared} {K : Frag} {x Dc : Addr} {ox : Obj} {od : Option Obj}
end
end PySem.W
namespace L2
namespace Hg
open PySem PySem.Spec PyProof.Rows
section
variable {X : Cx} {k : Nat} {ps ks : List Str} {sp : Sp} {x : Str} {p pos : Pos} {C fI : Addr} {fd : FuncData} {e : Expr} {es : List Expr} {kws : List Keyword} {ta tk : TA} {gV : List V → List V → List V}
end
section
variable {P : Program} {w : World} {K : PySem.W.Frag} {mg : Str → Option Value} {base : Heap} {k : Nat} {x q : Str} {st : Stmt} {C : Addr} {N ps : List Str} {sp : Sp}
end
/-! ### an error's field -/
section
variable {X : Cx} {e : Expr} {te : TE} {n : Str} {pos : Pos}
end
end Hg
end L2
end

section
set_option Elab.async false
set_option linter.all false
set_option maxRecDepth 100000
set_option maxHeartbeats 4000000
/-! super().__init__(..) within an own class's __init__. -/
namespace PySem.HgX
open PySem PySem.Spec
end PySem.HgX
namespace L2
namespace Hg
open PySem PySem.Spec PyProof.Rows
/-! ### statements one behind the other, where the running code is asked for -/
section
variable {M : Model} {A : Around} {c : Code} {env : Env} {E : Value → Shared → Prop} {Q : Flow → Shared → Prop}
end
/-! ### the def's context -/
section
variable {CX : CXT} {P : Program} {w : World} {K : PySem.W.Frag} {mg : Str → Option Value} {base : Heap} {N ps : List Str} {qual : Str} {scope : Scope} {f cc Dc : Addr} {cd : Value} {A : Around} {outer : List Env} {s : Shared} {H : Hp} {E : XK} {us : List Value} {vs : List V}
end
/-! ### the def's run -/
/-- the class D: its cell, its file's name in its __init__'s code object, what stands behind it for super() -/
structure SupAt (P : Program) (K : PySem.W.Frag) (mg : Str → Option Value) (Dc cc cda f2 : Addr) (m : Str) : Prop where
  cell : ∃ cl cld csl, K.lookup cc = some ⟨cl, cld, .cell (some (.ref Dc)), csl⟩
  code : ∃ ccl cdd vs ccs file tf, K.lookup cda = some ⟨ccl, cdd, .fields vs, ccs⟩ ∧ vs[2]? = some (.str file tf) ∧ ((P.main.file : Str) == file) = true
  clsD : (PySem.W.clsIn K Dc).isSome = true
  self : PySem.W.mroIn K Dc (.ref Dc) = some true
  nsup : mg "super" = none
  top : (P.main.scope.names.lookup ("super" : Str)).isSome = false
  sup : PySem.W.ks_superIn K Dc Dc m = some (some (.ref f2))
  ty2 : PySem.W.typeIn K (.ref f2) = some (.type "function")
  fn2 : PySem.W.fnIn K f2 = true
  opq : PySem.W.nsIn K cStatics "thirdparty.any" = some none
section
variable {X : Cx} {A : Around} {pins : List (Addr × Obj)} {σ : St} {H : Hp} {s : Shared} {body : List Stmt} {cc cda f f2 Dc x dx : Addr} {fs : List (Str × V)} {ar : Arg} {p0 p1 : Pos} {attr m : Str} {whole : Sem Value} {E : Value → Shared → Prop} {Q : Value → Shared → Prop}
end
/-! ### f"{x}" of an own instance -/
section
variable {X : Cx} {k : Nat} {ps : List Str} {sp : Sp} {e : Expr} {te : TE} {pos : Pos} {Good : Addr → Prop}
end
/-! ### xs.extend(t), t a list or a tuple -/
section
variable {X : Cx}
end
end Hg
end L2
end

section
set_option Elab.async false
set_option linter.all false
set_option maxRecDepth 100000
set_option maxHeartbeats 4000000
/-! isinstance of a caught error that has fields. -/
namespace L2
namespace Hg
open PySem PySem.Spec PyProof.Rows
section
variable {X : Cx} {a : Addr} {cls : Value} {d : Option Addr} {oe : Obj} {pn : List (Addr × Obj)}
end
section
variable {K : PySem.W.Frag} {a : Addr} {H : Hp} {Q : VK} {D dd : Addr} {fs : List (Str × V)}
end
end Hg
end L2
end

section
set_option Elab.async false
set_option linter.all false
set_option maxRecDepth 100000
set_option maxHeartbeats 4000000
/-! A lambda handed to a def that catches what it lets out; the end of a law's row with the law's own table of code objects. -/
namespace L2
namespace Hg
open PySem PySem.Spec PyProof.Rows LamX
section
variable {X : Cx} {pins : List (Addr × Obj)} {σ : St} {H : Hp} {s : Shared}
end
/-- a def whose code object is known -/
def DefC (K : PySem.W.Frag) (mg : Str → Option Value) (x : Str) (st : Stmt) (c : Addr) : Prop :=
  ∃ (f : Addr) (oc : Value) (od : Option Addr) (kV doc pm : Value) (an : Option Addr) (ct : Value) (osl : Array (Option Value)), mg x = some (.ref f) ∧ PySem.W.keepIn K (.ref f) = true ∧
    K.lookup f = some ⟨oc, od, .func (PySem.W.fnOf x x (defArgs st) (defBody st) (defScope st) .none kV doc pm an (.ref c) ct), osl⟩ ∧ PySem.W.codeIn K (.ref c) x = true
section
variable {P : Program} {w : World} {K : PySem.W.Frag} {mg : Str → Option Value} {base h : Heap} {k : Nat} {x : Str} {st : Stmt} {N ps : List Str} {sp : Sp} {c PT : Addr}
theorem DefAt.code (F : DefAt K mg x st) (KX : K.In h) (G : h.Ns mainGlobals mg) (ht : PySem.W.tabIn K x = some (c, PT)) : DefC K mg x st c := by
  obtain ⟨f, fd, hm, FF⟩ := F.ex
  obtain ⟨oc, od, kV, doc, pm, an, cdv, ct, osl, rfl, lk, hcd⟩ := FF.ex
  obtain rfl : cdv = .ref c := PySem.W.law_code KX G ht hm (KX _ _ lk) rfl
  exact ⟨f, oc, od, kV, doc, pm, an, ct, osl, hm, FF.kp, lk, hcd⟩
/-- the def x as K has it keeps sp -/
def DefL (P : Program) (w : World) (K : PySem.W.Frag) (mg : Str → Option Value) (base : Heap) (k : Nat) (x : Str) (ps : List Str) (sp : Sp) : Prop :=
  ∃ (f : Addr) (fd : FuncData) (oc : Value) (od : Option Addr) (osl : Array (Option Value)), mg x = some (.ref f) ∧ K.lookup f = some ⟨oc, od, .func fd, osl⟩ ∧ FnOk P w K mg base CX0 k f fd ps sp
theorem DefC.ok (F : DefC K mg x st c) (S : FnScope N ps (defScope st)) (len : ∀ vs H Q E, sp vs H Q E → vs.length = ps.length)
    (hbody : ∀ (f : Addr) (A : Around) (outer : List Env) (s : Shared) (H : Hp) (vs : List V) (Q : VK) (E : XK), Room k (A.deeper (envOfC x (defScope st) s.heap.objs.size f (.ref c))) → sp vs H Q E →
      ∃ t, PSs (cxOf CX0 P w K mg base N x (defScope st) f (.ref c) A outer s H E).nox (defBody st) t ∧ t { nx := fun _ H' => Q .non H', rt := Q } (start N vs) H) : DefL P w K mg base (k + 1) x ps sp := by
  obtain ⟨f, oc, od, kV, doc, pm, an, ct, osl, hm, kp, lk, hcd⟩ := F
  refine ⟨f, _, oc, od, osl, hm, lk, fn_of lk hcd S len fun A outer s H vs Q E hr hsp => ?_⟩
  obtain ⟨t, z, q⟩ := hbody f A outer s H vs Q E hr hsp
  exact ⟨t, z.nox, q⟩
end
end Hg
end L2
end

section
set_option Elab.async false
set_option linter.all false
set_option maxRecDepth 100000
set_option maxHeartbeats 4000000
/-! enumerate(t), t a tuple. -/
namespace PySem.HgX
open PySem PySem.Spec PySem.Calls PyProof.Rows
end PySem.HgX
namespace L2
namespace Hg
open PySem PySem.Spec PyProof.Rows
end Hg
end L2
end

section
set_option Elab.async false
set_option linter.all false
set_option maxRecDepth 100000
set_option maxHeartbeats 4000000
/-! Several clauses 'except x as n'; a method without arguments of an instance of one of some classes; len of an own instance. -/
namespace L2
namespace Hg
open PySem PySem.Spec PyProof.Rows
abbrev Cl3 := Value × Nat × (Addr → Value → Option Addr → TS)
section
variable {X : Cx} {bd : List Stmt} {h0 : ExceptHandler} {hds : List ExceptHandler} {l : List Cl3} {pos : Pos} {tb : WX → TS} {WW : WX}
end
/-! ### o.m(): o is an instance of one of some classes -/
section
variable {X : Cx} {CX : CXT} {k n : Nat} {Cs : Nat → Addr} {m : Str} {spI : Nat → Sp} {E : XK} {o : Expr} {ta : TE} {apos pos : Pos}
end
/-! ### len(a) by the class's own `__len__` -/
section
variable {X : Cx} {k : Nat} {C : Addr} {ps : List Str} {sp : Sp} {H : Hp}
end
end Hg
end L2
end

section
set_option Elab.async false
set_option linter.all false
set_option maxRecDepth 100000
set_option autoImplicit false
/-! == and != of lists and tuples whose items compare by an own `__eq__`: equal or not. -/
namespace GQB
open PySem PySem.SeqAt GQ
open AutoSeq1 (wpAny_loadPart')
open MeetsSeq MeetsSeq2 MeetsSeq3 SeqRoads2
section
variable {prog : Program} {w : World} {A : Around} {R : Result → Shared → Prop}
end
section
variable {prog : Program} {w : World} {A : Around} {E : Value → Shared → Prop} {s : Shared}

end
end GQB
end

section
set_option Elab.async false
set_option linter.all false
set_option maxRecDepth 100000
set_option autoImplicit false
/-! == and != of lists and tuples of own instances, as operators: what each pair says is told by D. -/
namespace L2
namespace Hg
open PySem PySem.Spec PyProof.Rows
/-- what == says of two values -/
abbrev Eqb := V → V → Hp → Bool → Prop
def EqB (X : Cx) (n : Nat) (D : Eqb) : Prop :=
  ∀ (A : Around) (pins : List (Addr × Obj)) (s : Shared) (σ : St) (H : Hp) (x y : V) (u v : Value) (k : Bool), Sub X n A → Inv X pins σ H s → RelV x u → RelV y v → D x y H k →
    wpAny (model X.prog X.w) A (eqBool u v) (fun r s' => r = k ∧ LoopI X pins σ H s') X.xe s
def RcB (X : Cx) (n : Nat) (op : CmpOp) (D : Eqb) : Prop :=
  ∀ (A : Around) (pins : List (Addr × Obj)) (s : Shared) (σ : St) (H : Hp) (x y : V) (u v : Value) (k : Bool), Sub X n A → Inv X pins σ H s → RelV x u → RelV y v → D x y H k →
    wpAny (model X.prog X.w) A (richCompare op u v) (fun r s' => r = .bool k ∧ LoopI X pins σ H s') X.xe s
section
variable {X : Cx} {n m : Nat} {D : Eqb}
theorem EqB.imp {D' : Eqb} (h : EqB X n D) (hd : ∀ x y H k, D' x y H k → D x y H k) : EqB X n D' := fun A pins s σ H x y u v k sb I rx ry d => h A pins s σ H x y u v k sb I rx ry (hd x y H k d)
theorem RcB.imp {op : CmpOp} {D' : Eqb} (h : RcB X n op D) (hd : ∀ x y H k, D' x y H k → D x y H k) : RcB X n op D' := fun A pins s σ H x y u v k sb I rx ry d => h A pins s σ H x y u v k sb I rx ry (hd x y H k d)
end
end Hg
end L2
end

section
/-! x in, not in a tuple of data -/
namespace L2
namespace Hg
open PySem PySem.Spec PyProof.Rows
section
variable {X : Cx}
end
end Hg
end L2
end

section
set_option Elab.async false
set_option linter.all false
set_option maxRecDepth 100000
set_option maxHeartbeats 4000000
/-! enumerate(x), x a text of ASCII signs. -/
namespace PySem.HgX
open PySem PySem.Spec PySem.Calls PyProof.Rows
end PySem.HgX
namespace L2
namespace Hg
open PySem PySem.Spec PyProof.Rows
end Hg
end L2
end

section
set_option Elab.async false
set_option linter.all false
set_option maxRecDepth 100000
set_option maxHeartbeats 4000000
/-! t.index(x), l.count(x): flat items of any kind. -/
namespace L2
namespace Hg
open PySem PySem.Spec PyProof.Rows
section
variable {X : Cx}
end
end Hg
end L2
end

section
set_option Elab.async false
set_option linter.all false
set_option maxRecDepth 100000
set_option maxHeartbeats 4000000
/-! Tuples known to have no dict of their own: displays, tuple * int, and the methods of such. -/
namespace L2
namespace Hg
open PySem PySem.Spec PyProof.Rows
/-- at t a tuple of xs without a dict -/
def TupD (H : Hp) (t : Addr) (xs : List V) : Prop := ∃ o : Obj, H t = some (.frz o (.tup xs)) ∧ o.dict = none
theorem TupD.sq {K : PySem.W.Frag} {H : Hp} {t : Addr} {xs : List V} (h : TupD H t xs) : SqT K H t xs := let ⟨o, e, _⟩ := h; .inl (.inr ⟨o, e⟩)
theorem TupD.same {H H' : Hp} {t : Addr} {xs : List V} (e : Same H H') (h : TupD H t xs) : TupD H' t xs := let ⟨o, h1, h2⟩ := h; ⟨o, e _ _ h1, h2⟩
def tTupF (t : TA) : TE := fun σ H Q => t σ H fun xs H1 => xs.length ≤ sizeLine ∧ ∀ p (o : Obj), H1 p = none → o.dict = none → Q (.ref p) (upd H1 p (.frz o (.tup xs)))
theorem r_tupF {t : TA} {σ : St} {H : Hp} {Q : VK} (k : t σ H fun xs H1 => xs.length ≤ sizeLine ∧ ∀ p (o : Obj), H1 p = none → o.dict = none → Q (.ref p) (upd H1 p (.frz o (.tup xs)))) : tTupF t σ H Q := k
instance ru_tupF {t : TA} {σ : St} {H : Hp} {Q : VK} : Ru (tTupF t σ H Q) (t σ H fun xs H1 => xs.length ≤ sizeLine ∧ ∀ p (o : Obj), H1 p = none → o.dict = none → Q (.ref p) (upd H1 p (.frz o (.tup xs)))) := ⟨r_tupF⟩
def tBMT (r : V → List V → Hp → VK → Prop) (to : TE) (t : TA) : TE := fun σ H Q => to σ H fun x H1 => (∃ p xs, x = .ref p ∧ TupD H1 p xs) ∧ t σ H1 fun xs H2 => r x xs H2 Q
theorem r_bmT {r : V → List V → Hp → VK → Prop} {to : TE} {t : TA} {σ : St} {H : Hp} {Q : VK} (k : to σ H fun x H1 => (∃ p xs, x = .ref p ∧ TupD H1 p xs) ∧ t σ H1 fun xs H2 => r x xs H2 Q) : tBMT r to t σ H Q := k
instance ru_bmT {r : V → List V → Hp → VK → Prop} {to : TE} {t : TA} {σ : St} {H : Hp} {Q : VK} : Ru (tBMT r to t σ H Q) (to σ H fun x H1 => (∃ p xs, x = .ref p ∧ TupD H1 p xs) ∧ t σ H1 fun xs H2 => r x xs H2 Q) := ⟨r_bmT⟩
/-! ### t[lo:hi], the whole of it too -/
/-! ### one of two readings -/
/-! ### enumerate(x), x a list or a tuple -/
end Hg
end L2
end

section
set_option Elab.async false
set_option linter.all false
set_option maxRecDepth 100000
set_option maxHeartbeats 4000000
/-! own op own where what is raised is wished at the slots. -/
namespace L2
namespace Hg
open PySem PySem.Spec PyProof.Rows
section
variable {X : Cx} {CX : CXT} {k : Nat} {C : Addr} {ps : List Str} {sp : Sp} {E : St → XK} {a b : Expr} {ta tb : TE} {pos : Pos}
end
end Hg
end L2
end

section
set_option Elab.async false
set_option linter.all false
set_option maxRecDepth 100000
set_option maxHeartbeats 4000000
/-! Defs with defaults: the call that leaves some out. -/
namespace L2
namespace Hg
open PySem PySem.Spec PyProof.Rows
section
variable {X : Cx} {CX : CXT} {k : Nat} {ps : List Str} {sp : Sp} {dvs : List V} {E : XK} {x : Str} {p pos : Pos} {e : Expr} {es : List Expr} {t : TA}
end
end Hg
end L2
end
set_option Elab.async false
set_option linter.all false
set_option maxRecDepth 100000
set_option autoImplicit false
set_option maxHeartbeats 200000
namespace L2
namespace Hg
open PySem PySem.Spec PyProof.Rows
local macro_rules | `(tactic| tm_at "r1") => `(tactic| first
  | with_reducible refine' r_ru ?_
  | ((with_reducible refine' r_slow ?_); first
    | ((with_reducible refine' r_var ?hv ?_); (case hv => exact rfl))
    | ((with_reducible refine' r_gNameE ?hset ?_); (case hset => ((try simp only [start, List.map_cons, List.map_nil, List.length_cons, List.length_nil, Nat.reduceAdd, Nat.reduceSub, List.replicate_succ, List.replicate_zero, List.cons_append, List.nil_append, List.set_cons_succ, List.set_cons_zero]); exact rfl)))
    | ((with_reducible refine' r_mod ?hv ?_); (case hv => decide))
    | ((with_reducible refine' r_mul (cmulL ?hv) ?_); (case hv => decide))
    | ((with_reducible refine' r_mul (cmulR ?hv) ?_); (case hv => decide))
    | ((with_reducible refine' r_pow ?hv ?_); (case hv => refine ⟨?_, ?_, ?_⟩ <;> decide))
    | ((with_reducible refine' r_makeL ?hv ?_); (case hv => exact rfl))
    | fail)
  | fail)
local macro_rules | `(tactic| tm_at "rd") => `(tactic| repeat tm_at "r1")
local macro_rules | `(tactic| tm_at "hs") => `(tactic| first
  | with_reducible assumption
  | (with_reducible refine' upd_same)
  | ((with_reducible refine' at_upd ?hn ?ho); (case hn => tm_at "ne"); (case ho => tm_at "hs"))
  | ((with_reducible refine' Bx.keep ?hx _ _ ?hn ?ho); (case hx => with_reducible assumption); (case hn => tm_at "ne"); (case ho => tm_at "hs"))
  | ((with_reducible refine' Same.at ?hx ?ho); (case hx => with_reducible assumption); (case ho => tm_at "hs"))
  | ((with_reducible refine' Kx.at ?hx ?hn ?ho); (case hx => with_reducible assumption); (case hn => tm_at "ne"); (case ho => tm_at "hs"))
  | fail)
local macro_rules | `(tactic| tm_at "ne") => `(tactic| first
  | with_reducible assumption
  | ((with_reducible refine' Ne.symm ?ha); (case ha => with_reducible assumption))
  | ((with_reducible refine' ne_of_none ?ha ?hb); (case hb => with_reducible assumption); (case ha => with_reducible assumption))
  | ((with_reducible refine' Ne.symm (ne_of_none ?ha ?hb)); (case hb => with_reducible assumption); (case ha => with_reducible assumption))
  | ((with_reducible refine' ne_of_none ?ha ?hb); (case hb => with_reducible assumption); (case ha => tm_at "hs"))
  | ((with_reducible refine' Ne.symm (ne_of_none ?ha ?hb)); (case hb => with_reducible assumption); (case ha => tm_at "hs"))
  | fail)
local macro_rules | `(tactic| tm_at "fr") => `(tactic| repeat (rename upd _ _ _ _ = Option.none => hfr; have hfr2 := free_upd hfr; clear hfr; obtain ⟨hfr3, hfr4⟩ := hfr2))
local macro_rules | `(tactic| tm_at "sq") => `(tactic| first
  | with_reducible assumption
  | ((with_reducible refine' SqL.of ?ho); (case ho => tm_at "hs"))
  | ((with_reducible refine' SqT.of ?ho); (case ho => tm_at "hs"))
  | fail)
local macro_rules | `(tactic| tm_at "r2") => `(tactic| first
  | with_reducible refine' r_ru ?_
  | ((with_reducible refine' r_slow ?_); first
    | ((with_reducible refine' r_var ?hv ?_); (case hv => exact rfl))
    | ((with_reducible refine' r_gNameE ?hset ?_); (case hset => ((try simp only [start, List.map_cons, List.map_nil, List.length_cons, List.length_nil, Nat.reduceAdd, Nat.reduceSub, List.replicate_succ, List.replicate_zero, List.cons_append, List.nil_append, List.set_cons_succ, List.set_cons_zero]); exact rfl)))
    | ((with_reducible refine' r_ixL ?ha ?hb ?_); (case ha => tm_at "sq"); (case hb => rfl))
    | ((with_reducible refine' r_ixT ?ha ?hb ?_); (case ha => tm_at "sq"); (case hb => rfl))
    | ((with_reducible refine' r_lenL ?ha ?_); (case ha => tm_at "sq"))
    | ((with_reducible refine' r_lenT ?ha ?_); (case ha => tm_at "sq"))
    | ((with_reducible refine' r_setL ?ha ?hb ?_); (case ha => tm_at "hs"); (case hb => rfl))
    | ((with_reducible refine' r_mod ?hv ?_); (case hv => decide))
    | ((with_reducible refine' r_mul (cmulL ?hv) ?_); (case hv => decide))
    | ((with_reducible refine' r_mul (cmulR ?hv) ?_); (case hv => decide))
    | ((with_reducible refine' r_pow ?hv ?_); (case hv => refine ⟨?_, ?_, ?_⟩ <;> decide))
    | ((with_reducible refine' r_makeL ?hv ?_); (case hv => exact rfl))
    | fail)
  | fail)
local macro_rules | `(tactic| tm_at "go") => `(tactic| repeat tm_at "r2")
local macro_rules | `(tactic| tm_at "fn") => `(tactic| first
  | with_reducible assumption
  | ((with_reducible refine' Same.free ?hs ?hn); (case hn => with_reducible assumption); (case hs => tm_at "sm"))
  | fail)
local macro_rules | `(tactic| tm_at "sm") => `(tactic| first
  | with_reducible assumption
  | with_reducible refine' Same.refl
  | ((with_reducible refine' Same.new ?ha ?hb); (case hb => with_reducible assumption); (case ha => tm_at "sm"))
  | ((with_reducible refine' Same.updF ?ha ?hb); (case hb => tm_at "fn"); (case ha => tm_at "sm"))
  | ((with_reducible refine' Same.bx ?ha ?hx ?hb); (case hx => with_reducible assumption); (case hb => tm_at "fn"); (case ha => tm_at "sm"))
  | ((with_reducible refine' Same.kx ?ha ?hx ?hb); (case hx => with_reducible assumption); (case hb => tm_at "fn"); (case ha => tm_at "sm"))
  | ((with_reducible refine' Same.trans ?ha ?hx); (case hx => with_reducible assumption); (case ha => tm_at "sm"))
  | fail)
local macro_rules | `(tactic| tm_at "tk") => `(tactic| first
  | with_reducible assumption
  | with_reducible refine' Tk.refl
  | ((with_reducible refine' Tk.new ?ha ?hb); (case hb => with_reducible assumption); (case ha => tm_at "tk"))
  | ((with_reducible refine' Tk.setL ?ha ?hb); (case hb => tm_at "hs"); (case ha => tm_at "tk"))
  | ((with_reducible refine' Tk.setI ?ha ?hb); (case hb => tm_at "hs"); (case ha => tm_at "tk"))
  | ((with_reducible refine' Tk.trans ?ha (Bx.tk ?hx ?hb)); (case hx => with_reducible assumption); (case hb => tm_at "bx"); (case ha => tm_at "tk"))
  | ((with_reducible refine' Tk.trans ?ha (Kx.tk ?hx ?hb)); (case hx => with_reducible assumption); (case hb => tm_at "hs"); (case ha => tm_at "tk"))
  | ((with_reducible refine' Tk.trans ?ha (Same.tk ?hx)); (case hx => with_reducible assumption); (case ha => tm_at "tk"))
  | ((with_reducible refine' Tk.trans ?ha ?hx); (case hx => with_reducible assumption); (case ha => tm_at "tk"))
  | fail)
local macro_rules | `(tactic| tm_at "bx") => `(tactic| first
  | with_reducible assumption
  | ((with_reducible refine' Bx.box ?hx); (case hx => with_reducible assumption))
  | ((with_reducible refine' BoxAt.at ?ha ?hn); (case hn => tm_at "ne"); (case ha => tm_at "bx"))
  | ((with_reducible refine' BoxAt.same ?ha ?hs); (case hs => with_reducible assumption); (case ha => tm_at "bx"))
  | exact ⟨_, _, _, by tm_at "hs"⟩
  | fail)
section
variable {P : Program} {w : World} {K : PySem.W.Frag} {mg : Str → Option Value} {base : Heap} {aGround aIR aNN aMis aIT aIC aPart aRow aTest aBarred aCh aSl aMo aBl aRe aHo aBr aMn aPa aMd aHi aIH : Addr} {rs : List Addr}
def top (i : Nat) : Stmt := PySem.Challenge.pw_heldground_k23_histories_compared.main.body.getD i (.Pass ⟨0, 0, 0, 0⟩)
/-! ### rows and tests: the classes, by their numbers -/
def clsB (K : PySem.W.Frag) (C : Addr) : Bool :=
  PySem.W.plainGet K C Str.empty && (PySem.W.hasDictIn K C && (PySem.W.plainOver K C && (decide (PySem.W.findIn K (.ref C) "__setattr__" = some (some (.builtin "object.__setattr__"))) && (decide (PySem.W.findIn K (.ref C) "__class__" = some (some (.builtin "object.__class__"))) &&
    (decide (PySem.W.mroIn K C (.type "object") = some true) && (PySem.W.makesIn K C && (PySem.W.keepIn K (.ref C) && ((PySem.W.clsIn K C).isSome && decide (PySem.W.mroIn K C (.ref C) = some true)))))))))
def rowCls (K : PySem.W.Frag) (rs : List Addr) : Bool := (List.range 18).all fun i => clsB K (rs.getD i 0)
def rowNo (K : PySem.W.Frag) (rs : List Addr) : Bool := (List.range 18).all fun i => ([("script" : Str), "used", "told_slots", "slot", "guarded", "note", "number", "test", "rows", "others"]).all fun f => decide (PySem.W.findIn K (.ref (rs.getD i 0)) f = some none)
/-- what isinstance answers of a value: an int, a bool, a text, a list or tuple, a row, a test -/
structure Knd where
  i : Bool
  b : Bool
  s : Bool
  q : Bool
  r : Bool
  t : Bool
def rowKnd (i : Nat) : Knd := ⟨false, false, false, false, decide (i < 11), decide (11 ≤ i)⟩
def kndB (K : PySem.W.Frag) (aRow aTest : Addr) (t : Value) (k : Knd) : Bool :=
  decide (PySem.W.kitOne K t (.type "int") = some k.i) && (decide (PySem.W.kitOne K t (.type "bool") = some k.b) && (decide (PySem.W.kitOne K t (.type "str") = some k.s) && (decide (PySem.W.kitAny K t [.type "list", .type "tuple"] = some k.q) &&
    (decide (PySem.W.kitOne K t (.ref aRow) = some k.r) && decide (PySem.W.kitOne K t (.ref aTest) = some k.t)))))
def rowKit (K : PySem.W.Frag) (rs : List Addr) (aRow aTest : Addr) : Bool := (List.range 18).all fun i => kndB K aRow aTest (.ref (rs.getD i 0)) (rowKnd i)
def plainKit (K : PySem.W.Frag) (aRow aTest : Addr) : Bool :=
  kndB K aRow aTest (.type "NoneType") ⟨false, false, false, false, false, false⟩ && (kndB K aRow aTest (.type "bool") ⟨true, true, false, false, false, false⟩ && (kndB K aRow aTest (.type "int") ⟨true, false, false, false, false, false⟩ &&
    (kndB K aRow aTest (.type "str") ⟨false, false, true, false, false, false⟩ && (kndB K aRow aTest (.type "list") ⟨false, false, false, true, false, false⟩ && kndB K aRow aTest (.type "tuple") ⟨false, false, false, true, false, false⟩))))
structure Knds (K : PySem.W.Frag) (aRow aTest : Addr) (t : Value) (k : Knd) : Prop where
  i : PySem.W.kitOne K t (.type "int") = some k.i
  b : PySem.W.kitOne K t (.type "bool") = some k.b
  s : PySem.W.kitOne K t (.type "str") = some k.s
  q : PySem.W.kitAny K t [.type "list", .type "tuple"] = some k.q
  r : PySem.W.kitOne K t (.ref aRow) = some k.r
  t : PySem.W.kitOne K t (.ref aTest) = some k.t
structure Is (K : PySem.W.Frag) (H : Hp) (aRow aTest : Addr) (v : V) (k : Knd) : Prop where
  ex : ∃ t, TyX K H v t ∧ Knds K aRow aTest t k
  int : k.i = true → k.b = false → ∃ i, v = .int i
  str : k.s = true → ∃ x, v = .str x
/-- other classes: neither rows nor tests -/
def othB (K : PySem.W.Frag) (aRow aTest : Addr) (l : List Addr) : Bool := l.all fun C => clsB K C && kndB K aRow aTest (.ref C) ⟨false, false, false, false, false, false⟩
section
variable {K : PySem.W.Frag}
end
def barred : List Str := ["not", "is", "any", "sure", "bare", "none"]
/-- isinstance(x, From) -/
def isFrom (K : PySem.W.Frag) (rs : List Addr) : Bool := (List.range 18).all fun i => decide (PySem.W.kitOne K (.ref (rs.getD i 0)) (.ref (rs.getD 1 0)) = some (decide (i = 1)))
/-- isinstance(x, tuple) -/
def tupKit (K : PySem.W.Frag) : Bool := ([("NoneType", false), ("bool", false), ("int", false), ("str", false), ("list", false), ("tuple", true)] : List (String × Bool)).all fun q => decide (PySem.W.kitOne K (.type q.1) (.type "tuple") = some q.2)
/-- isinstance(x, C), x and C rows or tests -/
def kitRR (K : PySem.W.Frag) (rs : List Addr) : Bool := (List.range 18).all fun i => (List.range 18).all fun j => decide (PySem.W.kitOne K (.ref (rs.getD i 0)) (.ref (rs.getD j 0)) = some (decide (i = j)))
def tyKit (K : PySem.W.Frag) : Bool := ([("bool", "bool", true), ("int", "int", true), ("int", "bool", false), ("bool", "int", true), ("list", "list", true), ("tuple", "tuple", true), ("tuple", "list", false)] : List (String × String × Bool)).all fun q => decide (PySem.W.kitOne K (.type q.1) (.type q.2.1) = some q.2.2)
structure Txt (K : PySem.W.Frag) (mg : Str → Option Value) (aGround aIR aNN aMis aIT aIC aPart aRow aTest aBarred aCh aSl aMo aBl aRe aHo aBr aMn aPa aMd aHi aIH : Addr) (rs : List Addr) : Prop where
  m_GroundError : mg "GroundError" = some (.ref aGround)
  b_GroundError : BaseInit K aGround
  m_InvalidRow : mg "InvalidRow" = some (.ref aIR)
  xp : PySem.W.findIn K (.ref aIR) "part" = some none
  fm : ∀ C, (∃ i, i < 18 ∧ C = rs.getD i 0) → PySem.W.findIn K (.ref C) "__format__" = some (some (.builtin "object.__format__")) ∧ PySem.W.mroIn K C (.type "object") = some true
  m_Row : mg "Row" = some (.ref aRow)
  m_Test : mg "Test" = some (.ref aTest)
  cl : rowCls K rs = true
  no : rowNo K rs = true
  kt : rowKit K rs aRow aTest = true
  kp : plainKit K aRow aTest = true
  kT : PySem.W.kitOne K (.type "tuple") (.type "tuple") = some true
  m_Not : mg "Not" = some (.ref (rs.getD 17 0))
  m_Holds : mg "Holds" = some (.ref (rs.getD 16 0))
  cg : PySem.W.specialIn K (.builtin "object.__class__") "__get__" = some (some (.builtin "getset_descriptor.__get__"))
  ct : PySem.W.takesIn K (.builtin "object.__class__") = some true
  m_LAST_SLOT : ∃ t, mg "LAST_SLOT" = some (.int 2 t)
  m_MOST_LETTERS : ∃ t, mg "MOST_LETTERS" = some (.int 4 t)
  m_LETTERS : ∃ t, mg "LETTERS" = some (.str "abcdefghijklmnopqrstuvwxyz" t)
  m_BARRED : mg "BARRED" = some (.ref aBarred)
  tb : ∀ H, SqT K H aBarred (barred.map V.str)
  n_int : mg "int" = none
  n_len : mg "len" = none
  n_abs : mg "abs" = none
  n_range : mg "range" = none
  n_min : mg "min" = none
  n_max : mg "max" = none
  n_bool : mg "bool" = none
  n_str : mg "str" = none
  n_repr : mg "repr" = none
  n_isinstance : mg "isinstance" = none
  n_tuple : mg "tuple" = none
  n_list : mg "list" = none
  n_all : mg "all" = none
  n_zip : mg "zip" = none
  m_NoNote : mg "NoNote" = some (.ref aNN)
  xwP : PySem.W.findIn K (.ref aIR) "part" = some none
  xwN : PySem.W.findIn K (.ref aNN) "name" = some none
  kf : isFrom K rs = true
  ku : tupKit K = true
  nCh : ∀ f, f ∈ [("rows" : Str), "notes", "numbered", "needs", "loose"] → NoAttr K aCh f
  m_Whole : mg "Whole" = some (.ref (rs.getD 0 0))
  m_Newest : mg "Newest" = some (.ref (rs.getD 2 0))
  m_Keep : mg "Keep" = some (.ref (rs.getD 4 0))
  m_KeepOldest : mg "KeepOldest" = some (.ref (rs.getD 5 0))
  m_KeepNone : mg "KeepNone" = some (.ref (rs.getD 6 0))
  m_Put : mg "Put" = some (.ref (rs.getD 7 0))
  m_Add : mg "Add" = some (.ref (rs.getD 8 0))
  m_Stop : mg "Stop" = some (.ref (rs.getD 9 0))
  m_If : mg "If" = some (.ref (rs.getD 10 0))
  m_Sure : mg "Sure" = some (.ref (rs.getD 11 0))
  m_Missed : mg "Missed" = some (.ref (rs.getD 12 0))
  m_Bare : mg "Bare" = some (.ref (rs.getD 14 0))
  m_AnySure : mg "AnySure" = some (.ref (rs.getD 15 0))
  m_From : mg "From" = some (.ref (rs.getD 1 0))
  m_LEAST_MODULUS : ∃ t, mg "LEAST_MODULUS" = some (.int 2 t)
  m_MOST_MODULUS : ∃ t, mg "MOST_MODULUS" = some (.int 4 t)
  n_enumerate : mg "enumerate" = none
  m_Chooser : mg "Chooser" = some (.ref aCh)
  m_BARE : ∃ t, mg "BARE" = some (.str "b" t)
  m_UNTOLD : ∃ t, mg "UNTOLD" = some (.str "u" t)
  m_SURE : ∃ t, mg "SURE" = some (.str "s" t)
  m_MISSED : ∃ t, mg "MISSED" = some (.str "m" t)
  m_LOST : ∃ t, mg "LOST" = some (.str "lost" t)
  m_BROKEN : ∃ t, mg "BROKEN" = some (.str "broken" t)
  m_SOUND : ∃ t, mg "SOUND" = some (.str "sound" t)
  m_FALSE : ∃ t, mg "FALSE" = some (.str "false" t)
  m_MOST_SLOTS : ∃ t, mg "MOST_SLOTS" = some (.int 3 t)
  m_MOST_LATENESS : ∃ t, mg "MOST_LATENESS" = some (.int 3 t)
  m_MOST_LOSSES : ∃ t, mg "MOST_LOSSES" = some (.int 4 t)
  m_MOST_WINDOW : ∃ t, mg "MOST_WINDOW" = some (.int 4 t)
  m_History : mg "History" = some (.ref aHi)
  kRR : kitRR K rs = true
  kTy : tyKit K = true
  cHo : Cls K aHo
  cBr : Cls K aBr
  cMn : Cls K aMn
  cPa : Cls K aPa
  cMd : Cls K aMd
  cHi : Cls K aHi
  nHo : ∀ f, f ∈ [("slots" : Str), "lateness", "losses", "window"] → NoAttr K aHo f
  nBr : ∀ f, f ∈ [("begin_rows" : Str), "moduli", "spots", "opening"] → NoAttr K aBr f
  nMn : ∀ f, f ∈ [("held_rests" : Str), "signs", "newest_first", "chosen", "kept_in", "is_over"] → NoAttr K aMn f
  nPa : ∀ f, f ∈ [("brain" : Str), "house", "modulus", "rests", "sent", "had", "showed", "choices", "tellings", "fates", "last_unheard"] → NoAttr K aPa f
  nMd : ∀ f, f ∈ [("number" : Str), "shown_as"] → NoAttr K aMd f
  nHi : ∀ f, f ∈ [("shown" : Str), "choices", "told"] → NoAttr K aHi f
  n_sorted : mg "sorted" = none
  kHH : PySem.W.kitOne K (.ref aHi) (.ref aHi) = some true
  nfH : PySem.W.notFirst K aHi (.ref aHi) = true
  neH : PySem.W.findIn K (.ref aHi) "__ne__" = some (some (.builtin "object.__ne__"))
  m_InvalidChooser : mg "InvalidChooser" = some (.ref aIC)
  xwC : PySem.W.findIn K (.ref aIC) "at" = some none
  m_SLOTS : mg "SLOTS" = some (.ref aSl)
  tSl : ∀ H, SqT K H aSl ((["0", "1", "2"] : List Str).map V.str)
  m_MODULI : mg "MODULI" = some (.ref aMo)
  tMo : ∀ H, SqT K H aMo ((["2", "3", "4"] : List Str).map V.str)
  m_MOST_DIGITS : ∃ t, mg "MOST_DIGITS" = some (.int 6 t)
  m_DIGITS : ∃ t, mg "DIGITS" = some (.str "0123456789" t)
  cBl : Cls K aBl
  cRe : Cls K aRe
  nBl : ∀ f, f ∈ [("asks" : Str), "ahead", "found"] → NoAttr K aBl f
  nRe : ∀ f, f ∈ [("known" : Str), "blocks"] → NoAttr K aRe f
  oth : othB K aRow aTest [aCh, aHi] = true
def lettersL (l : List Nat) : Bool := l.all fun c => decide (97 ≤ c ∧ c ≤ 122)
def nameS (x : Str) : Bool := decide (1 ≤ x.length ∧ x.length ≤ 4) && (!(barred.contains x) && lettersL x.cps.toList)
def nameV (v : V) : Bool := match v with | .str x => nameS x | _ => false
/-- InvalidRow(part) is raised -/
def Rz (aIR : Addr) (H : Hp) (E : XK) (part : Str) : Prop := ∀ H' d, Same H H' → H' d = none → E (.ref aIR) (some d) (upd H' d (.xd [("part", .str part)]))
section
variable {K : PySem.W.Frag}
end
/-! ### a list in another order -/
section
variable {K : PySem.W.Frag}
end
section
variable {K : PySem.W.Frag}
end
/-- up to one note, and three slots -/
def WorldAt (b : Addr) (H : Hp) (w : Addr) (o : Option (Str × Int)) : Prop := w ≠ b ∧ ∃ l, l ≠ b ∧ (∃ sl : Int, (1 ≤ sl ∧ sl ≤ 3) ∧ H w = some (.tup [.ref l, .int sl])) ∧ ((o = none ∧ H l = some (.lst [])) ∨ ∃ nm m t, t ≠ b ∧ o = some (nm, m) ∧ nameS nm = true ∧ (2 ≤ m ∧ m ≤ 4) ∧ H l = some (.lst [.ref t]) ∧ H t = some (.tup [.str nm, .int m]))
theorem WorldAt.bx {b w : Addr} {H H' : Hp} {o : Option (Str × Int)} (h : WorldAt b H w o) (x : Bx b H H') : WorldAt b H' w o := by
  obtain ⟨nw, l, nl, h1, h2⟩ := h
  obtain ⟨sl, hsl, h1⟩ := h1
  refine ⟨nw, l, nl, ⟨sl, hsl, x.keep _ _ nw h1⟩, h2.imp (fun z => ⟨z.1, x.keep _ _ nl z.2⟩) fun ⟨nm, m, t, nt, e, hn, hm, h3, h4⟩ => ⟨nm, m, t, nt, e, hn, hm, x.keep _ _ nl h3, x.keep _ _ nt h4⟩⟩
/-- a world: its note, and how many slots -/
structure Wo where
  nt : Option (Str × Int)
  sl : Nat
def WldS (b : Addr) (H : Hp) (w : Addr) (o : Wo) : Prop := WorldAt b H w o.nt ∧ (1 ≤ o.sl ∧ o.sl ≤ 3) ∧ ∃ l, H w = some (.tup [.ref l, .int (o.sl : Int)])
theorem WldS.bx {b w : Addr} {H H' : Hp} {o : Wo} (h : WldS b H w o) (x : Bx b H H') : WldS b H' w o := ⟨h.1.bx x, h.2.1, by
  obtain ⟨⟨nw, -⟩, -, l, q⟩ := h
  exact ⟨l, x.keep _ _ nw q⟩⟩
section
variable {K : PySem.W.Frag}
end
/-- a drawn test -/
inductive TD
  | slot (w : Str) (n : Nat)
  | anys
  | holds (nm : Str) (n : Nat)
  | neg (t : TD)
def TD.dep : TD → Nat
  | .neg t => t.dep + 1
  | _ => 0
def slotW : List Str := ["sure", "missed", "untold", "bare"]
inductive TDat (H : Hp) : V → TD → Prop
  | slot {a : Addr} {w : Str} {n : Nat} (h : H a = some (.tup [.str w, .int (n : Int)])) (hw : w ∈ slotW) (hn : n ≤ 2) : TDat H (.ref a) (.slot w n)
  | anys {a : Addr} (h : H a = some (.tup [.str "any sure"])) : TDat H (.ref a) .anys
  | holds {a : Addr} {nm : Str} {n : Nat} (h : H a = some (.tup [.str "holds", .str nm, .int (n : Int)])) (hn : nameS nm = true) (h6 : n ≤ 999999) : TDat H (.ref a) (.holds nm n)
  | neg {a : Addr} {v : V} {t : TD} (h : H a = some (.tup [.str "not", v])) (r : TDat H v t) : TDat H (.ref a) (.neg t)
theorem TDat.tk {H H' : Hp} {v : V} {t : TD} (e : ∀ a xs, H a = some (.tup xs) → H' a = some (.tup xs)) (h : TDat H v t) : TDat H' v t := by
  induction h with
  | slot h hw hn => exact .slot (e _ _ h) hw hn
  | anys h => exact .anys (e _ _ h)
  | holds h hn h6 => exact .holds (e _ _ h) hn h6
  | neg h _ ih => exact .neg (e _ _ h) ih
theorem tk_bx {b : Addr} {H H' : Hp} (hb : BoxAt H b) (x : Bx b H H') : ∀ a xs, H a = some (.tup xs) → H' a = some (.tup xs) := fun a xs h => x.keep a _ (fun z => by
  obtain ⟨u, v, w, q⟩ := hb
  rw [z, q] at h
  cases h) h
theorem tk_same {H H' : Hp} (x : Same H H') : ∀ a xs, H a = some (.tup xs) → H' a = some (.tup xs) := fun a xs h => x a _ h
theorem TDat.bx {b : Addr} {H H' : Hp} {v : V} {t : TD} (h : TDat H v t) (hb : BoxAt H b) (x : Bx b H H') : TDat H' v t := h.tk (tk_bx hb x)
theorem TDat.ref {H : Hp} {v : V} {t : TD} (h : TDat H v t) : ∃ a, v = .ref a := by
  cases h <;> exact ⟨_, rfl⟩
def usedT : TD → List Str
  | .holds nm _ => [nm]
  | .neg t => usedT t
  | _ => []
/-- the slots that a test tells of -/
def slotsT : TD → List Nat
  | .slot _ n => [n]
  | .neg t => slotsT t
  | _ => []
section
variable {K : PySem.W.Frag}
end
/-- a drawn row -/
inductive RD
  | one (w : Str)
  | keep (n : Nat)
  | frm (n : Nat) (g : Bool)
  | chg (add : Bool) (nm : Str) (n : Nat)
  | iff (t : TD) (rs os : List RD)
def singleW : List Str := ["whole", "newest", "oldest", "keep oldest", "keep none", "stop"]
def RAtF (H : Hp) (rec : V → RD → Prop) : V → RD → Prop
  | v, .one w => ∃ a, v = .ref a ∧ H a = some (.tup [.str w]) ∧ w ∈ singleW
  | v, .keep n => ∃ a, v = .ref a ∧ H a = some (.tup [.str "keep", .int (n : Int)]) ∧ n ≤ 2
  | v, .frm n g => ∃ a, v = .ref a ∧ H a = some (.tup [.str "from", .int (n : Int), .bl g]) ∧ n ≤ 2
  | v, .chg add nm n => ∃ a, v = .ref a ∧ H a = some (.tup [.str (if add = true then "add" else "put"), .str nm, .int (n : Int)]) ∧ nameS nm = true ∧ n ≤ 999999
  | v, .iff t rs os => ∃ a tv ra oa xs ys, v = .ref a ∧ H a = some (.tup [.str "if", tv, .ref ra, .ref oa]) ∧ TDat H tv t ∧ t.dep ≤ 2 ∧ H ra = some (.tup xs) ∧ H oa = some (.tup ys) ∧ Paired rec xs rs ∧ Paired rec ys os
def RD.isIf : RD → Bool
  | .iff _ _ _ => true
  | _ => false
def RAt (H : Hp) : Nat → V → RD → Prop
  | 0 => fun v r => r.isIf = false ∧ RAtF H (fun _ _ => False) v r
  | d + 1 => RAtF H (RAt H d)
def sizeF (rec : RD → Nat) : RD → Nat
  | .iff _ rs os => 1 + ((rs.map rec).sum + (os.map rec).sum)
  | _ => 1
def sizeD : Nat → RD → Nat
  | 0 => sizeF fun _ => 0
  | d + 1 => sizeF (sizeD d)
theorem PairedI {α : Type} {R R' : V → α → Prop} (h : ∀ x a, R x a → R' x a) : ∀ {xs : List V} {as : List α}, Paired R xs as → Paired R' xs as
  | _, _, .nil => .nil
  | _, _, .cons a b => .cons (h _ _ a) (PairedI h b)
theorem RAtF.tk {H H' : Hp} (e : ∀ a xs, H a = some (.tup xs) → H' a = some (.tup xs)) {r1 r2 : V → RD → Prop} (hr : ∀ v r, r1 v r → r2 v r) : ∀ {v : V} {r : RD}, RAtF H r1 v r → RAtF H' r2 v r
  | _, .one _, ⟨a, h1, h2, h3⟩ => ⟨a, h1, e _ _ h2, h3⟩
  | _, .keep _, ⟨a, h1, h2, h3⟩ => ⟨a, h1, e _ _ h2, h3⟩
  | _, .frm _ _, ⟨a, h1, h2, h3⟩ => ⟨a, h1, e _ _ h2, h3⟩
  | _, .chg _ _ _, ⟨a, h1, h2, h3⟩ => ⟨a, h1, e _ _ h2, h3⟩
  | _, .iff _ _ _, ⟨a, tv, ra, oa, xs, ys, h1, h2, h3, h4, h5, h6, h7, h8⟩ => ⟨a, tv, ra, oa, xs, ys, h1, e _ _ h2, h3.tk e, h4, e _ _ h5, e _ _ h6, PairedI hr h7, PairedI hr h8⟩
theorem RAt.tk {H H' : Hp} (e : ∀ a xs, H a = some (.tup xs) → H' a = some (.tup xs)) : ∀ (d : Nat) {v : V} {r : RD}, RAt H d v r → RAt H' d v r
  | 0, _, _, h => ⟨h.1, RAtF.tk e (fun _ _ z => z) h.2⟩
  | d + 1, _, _, h => RAtF.tk e (fun _ _ z => RAt.tk e d z) h
theorem Paired.snoc {α β : Type} {F : α → β → Prop} : ∀ {l : List α} {r : List β} {a : α} {b : β}, Paired F l r → F a b → Paired F (l ++ [a]) (r ++ [b])
  | _, _, _, _, .nil, h => .cons h .nil
  | _, _, _, _, .cons a b, h => .cons a (Paired.snoc b h)
/-- all but the box and the list l stays -/
structure Bl (b l : Addr) (H H' : Hp) : Prop where
  keep : ∀ x o, x ≠ b → x ≠ l → H x = some o → H' x = some o
  box : BoxAt H' b
theorem Bl.of {b l : Addr} {H H' : Hp} (h : Bx b H H') : Bl b l H H' := ⟨fun x o n _ z => h.keep x o n z, h.box⟩
theorem Bl.trans {b l : Addr} {H H1 H2 : Hp} (h : Bl b l H H1) (g : Bl b l H1 H2) : Bl b l H H2 := ⟨fun x o n m z => g.keep x o n m (h.keep x o n m z), g.box⟩
theorem Bl.set {b l : Addr} {H H1 : Hp} {o : HO} (h : Bl b l H H1) (n : b ≠ l) : Bl b l H (upd H1 l o) := ⟨fun x _ nb nl z => at_upd nl (h.keep x _ nb nl z), by
  obtain ⟨u, v, w, q⟩ := h.box
  exact ⟨u, v, w, at_upd n q⟩⟩
theorem Bl.updD {b l p : Addr} {H H1 : Hp} {o : HO} (h : Bl b l H H1) (hp : H p = none) (n : b ≠ p) : Bl b l H (upd H1 p o) := ⟨fun x _ nb nl z => at_upd (ne_of_none z hp) (h.keep x _ nb nl z), by
  obtain ⟨u, v, w, q⟩ := h.box
  exact ⟨u, v, w, at_upd n q⟩⟩
theorem Bl.free {b l p : Addr} {H H' : Hp} {u : HO} (h : Bl b l H H') (hb : BoxAt H b) (hl : H' l = some u) (hp : H' p = none) : H p = none := by
  cases e : H p with
  | none => rfl
  | some o =>
    by_cases nb : p = b
    · obtain ⟨x, y, z, q⟩ := h.box
      rw [← nb, hp] at q
      cases q
    · by_cases nl : p = l
      · rw [← nl, hp] at hl
        cases hl
      · rw [h.keep p o nb nl e] at hp
        cases hp
theorem WorldAt.bl {b l w : Addr} {H H' : Hp} {o : Option (Str × Int)} {m : Int} (h : WorldAt b H w o) (hl : H l = some (.lst [.int m])) (x : Bl b l H H') : WorldAt b H' w o := by
  obtain ⟨nw, l2, nl, ⟨sl, hsl, h1⟩, h2⟩ := h
  have w1 : w ≠ l := fun z => by rw [z, hl] at h1; cases h1
  refine ⟨nw, l2, nl, ⟨sl, hsl, x.keep _ _ nw w1 h1⟩, h2.imp (fun z => ⟨z.1, x.keep _ _ nl (fun y => by rw [y, hl] at z; cases z.2) z.2⟩) fun ⟨nm, m', t, nt, e, hn, hmm, h3, h4⟩ => ⟨nm, m', t, nt, e, hn, hmm, x.keep _ _ nl (fun y => by rw [y, hl] at h3; cases h3) h3, x.keep _ _ nt (fun y => by rw [y, hl] at h4; cases h4) h4⟩⟩
/-- the notes that a row names, in depth -/
def usedF (rec : RD → List Str) : RD → List Str
  | .chg _ nm _ => [nm]
  | .iff t rs os => usedT t ++ ((rs.map rec).flatten ++ (os.map rec).flatten)
  | _ => []
def usedD : Nat → RD → List Str
  | 0 => usedF fun _ => []
  | d + 1 => usedF (usedD d)
/-- the slots that a row tells of, in depth -/
def slotsF (rec : RD → List Nat) : RD → List Nat
  | .keep n => [n]
  | .frm n _ => [n]
  | .iff t rs os => slotsT t ++ ((rs.map rec).flatten ++ (os.map rec).flatten)
  | _ => []
def slotsD : Nat → RD → List Nat
  | 0 => slotsF fun _ => []
  | d + 1 => slotsF (slotsD d)
theorem WldS.bl {b l w : Addr} {H H' : Hp} {o : Wo} {m : Int} (h : WldS b H w o) (hl : H l = some (.lst [.int m])) (x : Bl b l H H') : WldS b H' w o := ⟨h.1.bl hl x, h.2.1, by
  obtain ⟨⟨nw, -⟩, -, l', q⟩ := h
  exact ⟨l', x.keep _ _ nw (fun z => by rw [z, hl] at q; cases q) q⟩⟩
section
variable {K : PySem.W.Frag}
end
section
variable {K : PySem.W.Frag}
theorem Bl.same {b l : Addr} {H H1 H2 : Hp} (h : Bl b l H H1) (s : Same H1 H2) : Bl b l H H2 := ⟨fun x o n1 n2 z => s _ _ (h.keep x o n1 n2 z), by
  obtain ⟨x, y, u, q⟩ := h.box
  exact ⟨x, y, u, s _ _ q⟩⟩
end
theorem RAtF.up {H : Hp} {r1 r2 : V → RD → Prop} (hr : ∀ v r, r1 v r → r2 v r) {v : V} {r : RD} (h : RAtF H r1 v r) : RAtF H r2 v r := RAtF.tk (fun _ _ z => z) hr h
theorem RAt.up {H : Hp} : ∀ (d : Nat) {v : V} {r : RD}, RAt H d v r → RAt H (d + 1) v r
  | 0, _, _, h => RAtF.up (fun _ _ z => z.elim) h.2
  | d + 1, _, _, h => RAtF.up (fun _ _ z => RAt.up d z) h
section
variable {K : PySem.W.Frag}
end
def RD.word : RD → Str
  | .one w => w
  | .keep _ => "keep"
  | .frm _ _ => "from"
  | .chg add _ _ => if add = true then "add" else "put"
  | .iff _ _ _ => "if"
theorem RAtF.head {H : Hp} {rec : V → RD → Prop} {v : V} {r : RD} (h : RAtF H rec v r) : ∃ a vs, v = .ref a ∧ H a = some (.tup (.str r.word :: vs)) ∧ (r.word == "if") = r.isIf := by
  cases r with
  | one w =>
    obtain ⟨a, h1, h2, h3⟩ := h
    refine ⟨a, [], h1, h2, ?_⟩
    have z : (singleW.all fun w => (w == "if") == false) = true := by decide +kernel
    exact eq_of_beq (List.all_eq_true.mp z w h3)
  | keep n =>
    obtain ⟨a, h1, h2, h3⟩ := h
    exact ⟨a, _, h1, h2, by show (("keep" : Str) == "if") = false; decide +kernel⟩
  | frm n g =>
    obtain ⟨a, h1, h2, h3⟩ := h
    exact ⟨a, _, h1, h2, by show (("from" : Str) == "if") = false; decide +kernel⟩
  | chg add nm n =>
    obtain ⟨a, h1, h2, h3⟩ := h
    refine ⟨a, _, h1, h2, ?_⟩
    cases add
    · show (("put" : Str) == "if") = false
      decide +kernel
    · show (("add" : Str) == "if") = false
      decide +kernel
  | iff t rs os =>
    obtain ⟨a, tv, ra, oa, xs, ys, h1, h2, h3⟩ := h
    exact ⟨a, _, h1, h2, by show (("if" : Str) == "if") = true; decide +kernel⟩
theorem RAt.head {H : Hp} {d : Nat} {v : V} {r : RD} (h : RAt H d v r) : ∃ a vs, v = .ref a ∧ H a = some (.tup (.str r.word :: vs)) ∧ (r.word == "if") = r.isIf := by
  cases d with
  | zero => exact RAtF.head h.2
  | succ d => exact RAtF.head h
def flatF (rec : RD → List RD) : RD → List RD
  | .iff t rs os => .iff t rs os :: ((rs.map rec).flatten ++ (os.map rec).flatten)
  | r => [r]
def flatD : Nat → RD → List RD
  | 0 => flatF fun _ => []
  | d + 1 => flatF (flatD d)
section
variable {K : PySem.W.Frag}
end
/-! ### lists of numbers from 0 on -/
abbrev natV (l : List Nat) : List V := l.map fun (n : Nat) => V.int (n : Int)
section
variable {K : PySem.W.Frag}
theorem Is.at {H H' : Hp} {v : V} {k : Knd} (e : ∀ a o, v = .ref a → H a = some o → (∀ ps, o ≠ .tbl ps) → H' a = some o) (h : Is K H aRow aTest v k) : Is K H' aRow aTest v k := by
  obtain ⟨⟨t, ty, kn⟩, hi, hs⟩ := h
  refine ⟨⟨t, ?_, kn⟩, hi, hs⟩
  cases ty with
  | base h =>
    refine .base ?_
    cases h with
    | non => exact .non
    | bl x => exact .bl x
    | int i => exact .int i
    | str x => exact .str x
    | flt x => exact .flt x
    | lst q => exact .lst (e _ _ rfl q fun _ z => nomatch z)
    | frz q => exact .frz (e _ _ rfl q fun _ z => nomatch z)
    | tup q => exact .tup (e _ _ rfl q fun _ z => nomatch z)
    | dK q => exact .dK (e _ _ rfl q fun _ z => nomatch z)
    | dT q => exact .dT (e _ _ rfl q fun _ z => nomatch z)
    | ins q cl ha hn hk hm => exact .ins (e _ _ rfl q fun _ z => nomatch z) cl ha hn hk hm
  | byt b => exact .byt b
  | set q => exact .set (e _ _ rfl q fun _ z => nomatch z)
  | kList q c => exact .kList q c
  | kTuple q c => exact .kTuple q c
  | kDict q c => exact .kDict q c
  | fTuple q => exact .fTuple (e _ _ rfl q fun _ z => nomatch z)
  | fDict q => exact .fDict (e _ _ rfl q fun _ z => nomatch z)
theorem Is.mono {H H' : Hp} {v : V} {k : Knd} (e : Same H H') (h : Is K H aRow aTest v k) : Is K H' aRow aTest v k := h.at fun a o _ z _ => e a o z
theorem Is.all {H H' : Hp} (e : Same H H') : ∀ {xs : List V} {ks : List Knd}, Paired (fun v k => Is K H aRow aTest v k) xs ks → Paired (fun v k => Is K H' aRow aTest v k) xs ks
  | _, _, .nil => .nil
  | _, _, .cons a b => .cons (a.mono e) (Is.all e b)
theorem SqT.kx {H H' : Hp} {x a : Addr} {xs : List V} {C dx : Addr} {fs : List (Str × V)} (e : Kx x H H') (hx : H x = some (.ins C dx fs)) (h : SqT K H a xs) : SqT K H' a xs := by
  rcases h with (h | ⟨o, h⟩) | h
  · exact .inl (.inl (e _ _ (ne_kind h hx fun z => nomatch z) h))
  · exact .inl (.inr ⟨o, e _ _ (ne_kind h hx fun z => nomatch z) h⟩)
  · exact .inr h
theorem SqL.kx {H H' : Hp} {x a : Addr} {xs : List V} {C dx : Addr} {fs : List (Str × V)} (e : Kx x H H') (hx : H x = some (.ins C dx fs)) (h : SqL K H a xs) : SqL K H' a xs := by
  rcases h with (h | ⟨o, h⟩) | h
  · exact .inl (.inl (e _ _ (ne_kind h hx fun z => nomatch z) h))
  · exact .inl (.inr ⟨o, e _ _ (ne_kind h hx fun z => nomatch z) h⟩)
  · exact .inr h
/-- what a part keeps: the lines, the notes, the slots -/
def PartF (H : Hp) (fs : List (Str × V)) (S U : List Str) (G : List Nat) : Prop := ∃ a1 a2 a3, fs.lookup ("script" : Str) = some (.ref a1) ∧ fs.lookup ("used" : Str) = some (.ref a2) ∧ fs.lookup ("told_slots" : Str) = some (.ref a3) ∧ SqT K H a1 (S.map V.str) ∧ SqT K H a2 (U.map V.str) ∧ SqT K H a3 (natV G)
end
/-! ### the text of a number -/
def numS (n : Nat) : Str := Str.ofString (toString ((n : Nat) : Int))
/-- neither SORT nor inner is an own field -/
def noSI (fs : List (Str × V)) : Prop := fs.lookup ("SORT" : Str) = none ∧ fs.lookup ("inner" : Str) = none
/-- a row or a test: its class, its lines, notes and slots, further fields -/
def RowAt (K : PySem.W.Frag) (H : Hp) (x C : Addr) (S U : List Str) (G : List Nat) (ex : List (Str × V)) : Prop := ∃ dx fs, H x = some (.ins C dx fs) ∧ PartF (K := K) H fs S U G ∧ noSI fs ∧ ∀ q ∈ ex, fs.lookup q.1 = some q.2
section
variable {K : PySem.W.Frag}
theorem lk_ne {f g : Str} {v : V} {fs : List (Str × V)} (h : g ≠ f) : (putF f v fs).lookup g = fs.lookup g := by rw [lookup_putF, if_neg h]
theorem lk_eq {f : Str} {v : V} {fs : List (Str × V)} : (putF f v fs).lookup f = some v := by rw [lookup_putF, if_pos rfl]
theorem PartF.put {H : Hp} {fs : List (Str × V)} {f : Str} {v : V} {S U : List Str} {G : List Nat} (h : PartF (K := K) H fs S U G) (n1 : ("script" : Str) ≠ f) (n2 : ("used" : Str) ≠ f) (n3 : ("told_slots" : Str) ≠ f) : PartF (K := K) H (putF f v fs) S U G := by
  obtain ⟨a1, a2, a3, h1, h2, h3, t⟩ := h
  exact ⟨a1, a2, a3, by rw [lk_ne n1, h1], by rw [lk_ne n2, h2], by rw [lk_ne n3, h3], t⟩
theorem PartF.kx {H H' : Hp} {x C dx : Addr} {fs gs : List (Str × V)} {S U : List Str} {G : List Nat} (e : Kx x H H') (hx : H x = some (.ins C dx gs)) (h : PartF (K := K) H fs S U G) : PartF (K := K) H' fs S U G := by
  obtain ⟨a1, a2, a3, h1, h2, h3, t1, t2, t3⟩ := h
  exact ⟨a1, a2, a3, h1, h2, h3, SqT.kx e hx t1, SqT.kx e hx t2, SqT.kx e hx t3⟩
theorem PartF.mono {H H' : Hp} {fs : List (Str × V)} {S U : List Str} {G : List Nat} (e : Same H H') (h : PartF (K := K) H fs S U G) : PartF (K := K) H' fs S U G := by
  obtain ⟨a1, a2, a3, h1, h2, h3, t1, t2, t3⟩ := h
  exact ⟨a1, a2, a3, h1, h2, h3, sameT e t1, sameT e t2, sameT e t3⟩
/-- a class whose __init__ says super() -/
def RowK (P : Program) (K : PySem.W.Frag) (mg : Str → Option Value) (x q : Str) (st : Stmt) (C f2 : Addr) : Prop := mg x = some (.ref C) ∧ ∃ (f cc cda : Addr) (kV doc pm ct oc : Value) (an od : Option Addr) (osl : Array (Option Value)), Mk K C f ∧
  K.lookup f = some ⟨oc, od, .func (PySem.W.ksFn "__init__" q (defArgs st) (defBody st) (defScope st) .none kV doc pm an (.ref cda) ct cc), osl⟩ ∧ PySem.W.codeIn K (.ref cda) q = true ∧ SupAt P K mg C cc cda f2 "__init__"
end
section
variable {K : PySem.W.Frag}
theorem Rz.same {aIR : Addr} {H H1 : Hp} {E : XK} {part : Str} (h : Rz aIR H E part) (s : Same H H1) : Rz aIR H1 E part := fun H' d s' hd => h H' d (s.trans s') hd
end
section
variable {K : PySem.W.Frag}
/-- a row as a value: an instance with its lines -/
def RowV (K : PySem.W.Frag) (H : Hp) (rs : List Addr) (v : V) (S : List Str) : Prop := ∃ (a dx : Addr) (i : Nat) (fs : List (Str × V)) (U : List Str) (G : List Nat), v = .ref a ∧ i < 18 ∧ H a = some (.ins (rs.getD i 0) dx fs) ∧ PartF (K := K) H fs S U G
theorem RowV.mono {H H' : Hp} {v : V} {S : List Str} (e : Same H H') (h : RowV K H rs v S) : RowV K H' rs v S := by
  obtain ⟨a, dx, i, fs, U, G, rfl, hi, hx, hp⟩ := h
  exact ⟨a, dx, i, fs, U, G, rfl, hi, e _ _ hx, hp.mono e⟩
end
section
variable {K : PySem.W.Frag}
def fromT (n : Nat) (g : Bool) : Str := if g = true then "from " ++ numS n ++ " if sure" else "from " ++ numS n
/-- a part as a value: its lines, notes and slots -/
def TestV (K : PySem.W.Frag) (H : Hp) (rs : List Addr) (v : V) (S U : List Str) (G : List Nat) : Prop := ∃ (a dx : Addr) (i : Nat) (fs : List (Str × V)), v = .ref a ∧ i < 18 ∧ H a = some (.ins (rs.getD i 0) dx fs) ∧ PartF (K := K) H fs S U G
theorem TestV.mono {H H' : Hp} {v : V} {S U : List Str} {G : List Nat} (e : Same H H') (h : TestV K H rs v S U G) : TestV K H' rs v S U G := by
  obtain ⟨a, dx, i, fs, rfl, hi, hx, hp⟩ := h
  exact ⟨a, dx, i, fs, rfl, hi, e _ _ hx, hp.mono e⟩
/-- a list or a tuple of values, if it is one -/
def SeqA (K : PySem.W.Frag) (H : Hp) (aRow aTest : Addr) (v : V) (k : Knd) (xs : List V) (ks : List Knd) : Prop := Is K H aRow aTest v k ∧ (k.q = true → ∃ a, v = .ref a ∧ (SqL K H a xs ∨ SqT K H a xs) ∧ xs.length ≤ 1000 ∧ Paired (fun y k' => Is K H aRow aTest y k') xs ks)
theorem SeqA.mono {H H' : Hp} {v : V} {k : Knd} {xs : List V} {ks : List Knd} (e : Same H H') (h : SeqA K H aRow aTest v k xs ks) : SeqA K H' aRow aTest v k xs ks := by
  refine ⟨h.1.mono e, fun c => ?_⟩
  obtain ⟨a, ha, hs, z, hp⟩ := h.2 c
  exact ⟨a, ha, hs.imp (Same.seqL e) (sameT e), z, Is.all e hp⟩
def ifLines (S : List Str) (Sr So : List (List Str)) : List Str := ("if " ++ Txt.join "\n" S) :: (Sr.flatten ++ ((if So.length = 0 then [] else ("else" : Str) :: So.flatten) ++ [("end" : Str)]))
theorem Paired.imp {α : Type} {R R' : V → α → Prop} (h : ∀ x a, R x a → R' x a) : ∀ {xs : List V} {as : List α}, Paired R xs as → Paired R' xs as
  | _, _, .nil => .nil
  | _, _, .cons a b => .cons (h _ _ a) (Paired.imp h b)
end
section
variable {K : PySem.W.Frag} {H : Hp}
def kd0 (v : V) : Knd := ⟨isIB v, isB v, isS v, false, false, false⟩
def isPl (v : V) : Bool := match v with | .non => true | .bl _ => true | .int _ => true | .str _ => true | _ => false
end
def tIx (w : Str) : Nat := if w = "sure" then 11 else if w = "missed" then 12 else if w = "untold" then 13 else 14
def tText : TD → Str
  | .slot w n => w ++ " " ++ numS n
  | .anys => "any sure"
  | .holds nm n => nm ++ " is " ++ numS n
  | .neg t => "not " ++ tText t
/-- the notes and the slots that a test speaks of -/
def toldT : TD → List Nat
  | .slot _ n => [n]
  | .neg t => toldT t
  | _ => []
/-- all but lists stays -/
def Lx (H H' : Hp) : Prop := ∀ a o, H a = some o → (∀ xs, o ≠ .lst xs) → H' a = some o
theorem Lx.refl (H : Hp) : Lx H H := fun _ _ h _ => h
theorem Lx.trans {H H1 H2 : Hp} (e : Lx H H1) (g : Lx H1 H2) : Lx H H2 := fun a o h n => g a o (e a o h n) n
theorem Lx.same {H H' : Hp} (s : Same H H') : Lx H H' := fun a o h _ => s a o h
theorem Lx.bx {H H' : Hp} {b : Addr} (hb : BoxAt H b) (x : Bx b H H') : Lx H H' := fun a o h n => x.keep a o (fun z => by
  obtain ⟨u, v, w, q⟩ := hb
  rw [z, q] at h
  cases h
  exact n _ rfl) h
theorem Lx.upd {H : Hp} {l : Addr} {xs : List V} {o : HO} (hl : H l = some (.lst xs)) : Lx H (upd H l o) := fun a u h n => at_upd (fun z => by
  rw [z, hl] at h
  cases h
  exact n _ rfl) h
theorem Lx.tk {H H' : Hp} (e : Lx H H') : ∀ a xs, H a = some (.tup xs) → H' a = some (.tup xs) := fun a xs h => e a _ h fun _ z => nomatch z
section
variable {K : PySem.W.Frag}
theorem SqT.lx {H H' : Hp} {a : Addr} {xs : List V} (e : Lx H H') (h : SqT K H a xs) : SqT K H' a xs := by
  rcases h with (h | ⟨o, h⟩) | h
  · exact .inl (.inl (e _ _ h fun _ z => nomatch z))
  · exact .inl (.inr ⟨o, e _ _ h fun _ z => nomatch z⟩)
  · exact .inr h
theorem PartF.lx {H H' : Hp} {fs : List (Str × V)} {S U : List Str} {G : List Nat} (e : Lx H H') (h : PartF (K := K) H fs S U G) : PartF (K := K) H' fs S U G := by
  obtain ⟨a1, a2, a3, h1, h2, h3, t1, t2, t3⟩ := h
  exact ⟨a1, a2, a3, h1, h2, h3, SqT.lx e t1, SqT.lx e t2, SqT.lx e t3⟩
end
section
variable {K : PySem.W.Frag}
def TMade (K : PySem.W.Frag) (H : Hp) (rs : List Addr) : TD → V → Prop
  | .slot w n, v => ∃ a, v = .ref a ∧ RowAt K H a (rs.getD (tIx w) 0) [tText (.slot w n)] [] [n] [("slot", .int (n : Int))]
  | .anys, v => ∃ a, v = .ref a ∧ RowAt K H a (rs.getD 15 0) ["any sure"] [] [] []
  | .holds nm n, v => ∃ a, v = .ref a ∧ RowAt K H a (rs.getD 16 0) [tText (.holds nm n)] [nm] [] [("note", .str nm), ("number", .int (n : Int))]
  | .neg t, v => ∃ a u, v = .ref a ∧ RowAt K H a (rs.getD 17 0) [tText (.neg t)] (usedT t) (toldT t) [("test", u)] ∧ TMade K H rs t u
theorem RowAt.lx {H H' : Hp} {x C : Addr} {S U : List Str} {G : List Nat} {ex : List (Str × V)} (e : Lx H H') (h : RowAt K H x C S U G ex) : RowAt K H' x C S U G ex := by
  obtain ⟨dx, fs, hx, hp, hz, he⟩ := h
  exact ⟨dx, fs, e _ _ hx (fun _ z => nomatch z), hp.lx e, hz, he⟩
theorem TMade.lx {H H' : Hp} (e : Lx H H') : ∀ {t : TD} {v : V}, TMade K H rs t v → TMade K H' rs t v
  | .slot _ _, _, ⟨a, h1, h2⟩ => ⟨a, h1, h2.lx e⟩
  | .anys, _, ⟨a, h1, h2⟩ => ⟨a, h1, h2.lx e⟩
  | .holds _ _, _, ⟨a, h1, h2⟩ => ⟨a, h1, h2.lx e⟩
  | .neg _, _, ⟨a, u, h1, h2, h3⟩ => ⟨a, u, h1, h2.lx e, TMade.lx e h3⟩
theorem TMade.mono {H H' : Hp} (e : Same H H') {t : TD} {v : V} (h : TMade K H rs t v) : TMade K H' rs t v := TMade.lx (Lx.same e) h
theorem tIx_le (w : Str) : 11 ≤ tIx w ∧ tIx w < 18 := by
  unfold tIx
  repeat' split
  all_goals omega
/-- a made test's lines, and that it is one -/
theorem TMade.test {H : Hp} : ∀ {t : TD} {v : V}, TMade K H rs t v → ∃ i : Nat, 11 ≤ i ∧ i < 18 ∧ ∃ a, v = .ref a ∧ ∃ ex, RowAt K H a (rs.getD i 0) [tText t] (usedT t) (toldT t) ex
  | .slot w n, _, ⟨a, h1, h2⟩ => ⟨tIx w, (tIx_le w).1, (tIx_le w).2, a, h1, _, h2⟩
  | .anys, _, ⟨a, h1, h2⟩ => ⟨15, by omega, by omega, a, h1, _, h2⟩
  | .holds _ _, _, ⟨a, h1, h2⟩ => ⟨16, by omega, by omega, a, h1, _, h2⟩
  | .neg _, _, ⟨a, u, h1, h2, h3⟩ => ⟨17, by omega, by omega, a, h1, _, h2⟩
end
section
variable {K : PySem.W.Frag}
end
def sIx (w : Str) : Nat := if w = "whole" then 0 else if w = "newest" then 2 else if w = "oldest" then 3 else if w = "keep oldest" then 5 else if w = "keep none" then 6 else 9
def chgT (add : Bool) (nm : Str) (n : Nat) : Str := if add = true then "add " ++ nm ++ " " ++ numS n else "put " ++ nm ++ " " ++ numS n
def linesF (rec : RD → List Str) : RD → List Str
  | .one w => [w]
  | .keep n => ["keep " ++ numS n]
  | .frm n g => [fromT n g]
  | .chg add nm n => [chgT add nm n]
  | .iff t rs os => ifLines [tText t] (rs.map rec) (os.map rec)
def linesD : Nat → RD → List Str
  | 0 => linesF fun _ => []
  | d + 1 => linesF (linesD d)
def rIx : RD → Nat
  | .one w => sIx w
  | .keep _ => 4
  | .frm _ _ => 1
  | .chg add _ _ => if add = true then 8 else 7
  | .iff _ _ _ => 10
theorem sIx_le (w : Str) : sIx w < 10 := by
  unfold sIx
  repeat' split
  all_goals omega
theorem rIx_le (r : RD) : rIx r < 11 := by
  cases r with
  | one w => exact Nat.lt_of_lt_of_le (sIx_le w) (by decide)
  | chg add nm n => show (if add = true then 8 else 7) < 11; split <;> omega
  | keep n => show 4 < 11; decide
  | frm n g => show 1 < 11; decide
  | iff a b c => show 10 < 11; decide
section
variable {K : PySem.W.Frag}
def RMadeF (K : PySem.W.Frag) (H : Hp) (rs : List Addr) (ln : RD → List Str) (rec : RD → V → Prop) (r : RD) (v : V) : Prop := ∃ a, v = .ref a ∧ match r with
  | .one w => RowAt K H a (rs.getD (sIx w) 0) (ln (.one w)) [] [] []
  | .keep n => RowAt K H a (rs.getD 4 0) (ln (.keep n)) [] [n] [("slot", .int (n : Int))]
  | .frm n g => RowAt K H a (rs.getD 1 0) (ln (.frm n g)) [] [n] [("slot", .int (n : Int)), ("guarded", .bl g)]
  | .chg add nm n => RowAt K H a (rs.getD (if add = true then 8 else 7) 0) (ln (.chg add nm n)) [nm] [] [("note", .str nm), ("number", .int (n : Int))]
  | .iff t rs' os => ∃ (tv : V) (ra oa : Addr) (xs ys : List V), RowAt K H a (rs.getD 10 0) (ln (.iff t rs' os)) (usedT t) (toldT t) [("test", tv), ("rows", .ref ra), ("others", .ref oa)] ∧ TMade K H rs t tv ∧ SqT K H ra xs ∧ SqT K H oa ys ∧ Paired (fun u r => rec r u) xs rs' ∧ Paired (fun u r => rec r u) ys os
def RMade (K : PySem.W.Frag) (H : Hp) (rs : List Addr) : Nat → RD → V → Prop
  | 0 => RMadeF K H rs (linesD 0) fun _ _ => False
  | d + 1 => RMadeF K H rs (linesD (d + 1)) (RMade K H rs d)
theorem RMadeF.lx {H H' : Hp} (e : Lx H H') {ln : RD → List Str} {r1 r2 : RD → V → Prop} (hr : ∀ r v, r1 r v → r2 r v) {r : RD} {v : V} (h : RMadeF K H rs ln r1 r v) : RMadeF K H' rs ln r2 r v := by
  obtain ⟨a, h1, h2⟩ := h
  refine ⟨a, h1, ?_⟩
  cases r with
  | iff t rs' os =>
    obtain ⟨tv, ra, oa, xs, ys, g1, g2, g3, g4, g5, g6⟩ := h2
    exact ⟨tv, ra, oa, xs, ys, RowAt.lx e g1, TMade.lx e g2, SqT.lx e g3, SqT.lx e g4, PairedI (fun v r z => hr r v z) g5, PairedI (fun v r z => hr r v z) g6⟩
  | one w => exact RowAt.lx e h2
  | keep n => exact RowAt.lx e h2
  | frm n g => exact RowAt.lx e h2
  | chg add nm n => exact RowAt.lx e h2
theorem RMade.lx {H H' : Hp} (e : Lx H H') : ∀ (d : Nat) {r : RD} {v : V}, RMade K H rs d r v → RMade K H' rs d r v
  | 0, _, _, h => RMadeF.lx e (fun _ _ z => z) h
  | d + 1, _, _, h => RMadeF.lx e (fun _ _ z => RMade.lx e d z) h
theorem RMade.mono {H H' : Hp} (e : Same H H') (d : Nat) {r : RD} {v : V} (h : RMade K H rs d r v) : RMade K H' rs d r v := RMade.lx (Lx.same e) d h
theorem RMadeF.row {H : Hp} {ln : RD → List Str} {rec : RD → V → Prop} {r : RD} {v : V} (h : RMadeF K H rs ln rec r v) : ∃ a, v = .ref a ∧ ∃ U G ex, RowAt K H a (rs.getD (rIx r) 0) (ln r) U G ex := by
  obtain ⟨a, h1, h2⟩ := h
  refine ⟨a, h1, ?_⟩
  cases r with
  | iff t rs' os =>
    obtain ⟨tv, ra, oa, xs, ys, g1, _⟩ := h2
    exact ⟨_, _, _, g1⟩
  | one w => exact ⟨_, _, _, h2⟩
  | keep n => exact ⟨_, _, _, h2⟩
  | frm n g => exact ⟨_, _, _, h2⟩
  | chg add nm n => exact ⟨_, _, _, h2⟩
theorem RMade.row {H : Hp} {d : Nat} {r : RD} {v : V} (h : RMade K H rs d r v) : ∃ a, v = .ref a ∧ ∃ U G ex, RowAt K H a (rs.getD (rIx r) 0) (linesD d r) U G ex := by
  cases d with
  | zero => exact RMadeF.row h
  | succ d => exact RMadeF.row h
end
section
variable {K : PySem.W.Frag}
end
section
variable {K : PySem.W.Frag}
end
section
variable {K : PySem.W.Frag}
end
/-! ### drawn rows as data -/
section
variable {K : PySem.W.Frag}
end
section
variable {K : PySem.W.Frag}
end
section
variable {K : PySem.W.Frag}
section
variable {X : Cx} {k : Nat} {ps : List Str} {sp : Sp} {Good : Addr → Prop}
end
end
section
variable {X : Cx} {ta : TE}
end
section
variable {K : PySem.W.Frag}
end
/-! ### rows within rows -/
/-- the notes and the slots that a row speaks of -/
def usedR : RD → List Str
  | .chg _ nm _ => [nm]
  | .iff t _ _ => usedT t
  | _ => []
def toldR : RD → List Nat
  | .keep n => [n]
  | .frm n _ => [n]
  | .iff t _ _ => toldT t
  | _ => []
section
variable {K : PySem.W.Frag}
/-- a row's instance, whatever stands within it -/
def RowI (K : PySem.W.Frag) (H : Hp) (rs : List Addr) (q : RD) (z : V) : Prop := ∃ a, z = .ref a ∧ ∃ S ex, RowAt K H a (rs.getD (rIx q) 0) S (usedR q) (toldR q) ex ∧ (∀ n g, q = .frm n g → (("guarded" : Str), V.bl g) ∈ ex) ∧ S = linesD 3 q
theorem RowI.lx {H H' : Hp} (e : Lx H H') {q : RD} {z : V} (h : RowI K H rs q z) : RowI K H' rs q z := by
  obtain ⟨a, h1, S, ex, h2, h3⟩ := h
  exact ⟨a, h1, S, ex, RowAt.lx e h2, h3⟩
theorem RowI.mono {H H' : Hp} (e : Same H H') {q : RD} {z : V} (h : RowI K H rs q z) : RowI K H' rs q z := RowI.lx (Lx.same e) h
theorem RMadeF.rowI {H : Hp} {ln : RD → List Str} {rec : RD → V → Prop} {r : RD} {v : V} (h : RMadeF K H rs ln rec r v) (hl : ln r = linesD 3 r) : RowI K H rs r v := by
  obtain ⟨a, h1, h2⟩ := h
  refine ⟨a, h1, ?_⟩
  cases r with
  | iff t rs' os =>
    obtain ⟨tv, ra, oa, xs, ys, g1, _⟩ := h2
    exact ⟨_, _, g1, fun _ _ z => (nomatch z), hl⟩
  | one w => exact ⟨_, _, h2, fun _ _ z => (nomatch z), hl⟩
  | keep n => exact ⟨_, _, h2, fun _ _ z => (nomatch z), hl⟩
  | frm n g => exact ⟨_, _, h2, fun n' g' z => by cases z; exact .tail _ (.head _), hl⟩
  | chg add nm n => exact ⟨_, _, h2, fun _ _ z => (nomatch z), hl⟩
theorem paired_map {R : RD → V → Prop} {f g : RD → List Str} (h : ∀ r v, R r v → f r = g r) : ∀ {xs : List V} {rl : List RD}, Paired (fun u r => R r u) xs rl → rl.map f = rl.map g
  | _, _, .nil => rfl
  | _, _, .cons a b => by rw [List.map_cons, List.map_cons, h _ _ a, paired_map h b]
/-- a made row's lines do not ask for more depth -/
theorem lines_stab {H : Hp} : ∀ {d e : Nat} {r : RD} {v : V}, RMade K H rs d r v → d ≤ e → linesD e r = linesD d r
  | 0, e, r, v, h, _ => by
    obtain ⟨a, h1, h2⟩ := h
    cases r with
    | iff t rs' os =>
      obtain ⟨tv, ra, oa, xs, ys, _, _, _, _, p1, p2⟩ := h2
      have q1 : rs' = [] := by cases p1 with | nil => rfl | cons a _ => exact a.elim
      have q2 : os = [] := by cases p2 with | nil => rfl | cons a _ => exact a.elim
      subst q1 q2
      cases e <;> rfl
    | _ => cases e <;> rfl
  | d + 1, 0, r, v, h, z => absurd z (Nat.not_succ_le_zero _)
  | d + 1, e + 1, r, v, h, z => by
    obtain ⟨a, h1, h2⟩ := h
    cases r with
    | iff t rs' os =>
      obtain ⟨tv, ra, oa, xs, ys, _, _, _, _, p1, p2⟩ := h2
      have q1 : rs'.map (linesD e) = rs'.map (linesD d) := paired_map (R := RMade K H rs d) (fun r v m => lines_stab m (Nat.le_of_succ_le_succ z)) p1
      have q2 : os.map (linesD e) = os.map (linesD d) := paired_map (R := RMade K H rs d) (fun r v m => lines_stab m (Nat.le_of_succ_le_succ z)) p2
      show ifLines [tText t] (rs'.map (linesD e)) (os.map (linesD e)) = ifLines [tText t] (rs'.map (linesD d)) (os.map (linesD d))
      rw [q1, q2]
    | _ => rfl
theorem RMade.rowI {H : Hp} {d : Nat} (hd : d ≤ 3) {r : RD} {v : V} (h : RMade K H rs d r v) : RowI K H rs r v := by
  have z := lines_stab h hd
  cases d with
  | zero => exact RMadeF.rowI h z.symm
  | succ d => exact RMadeF.rowI h z.symm
/-- what is asked of a way to tell rows -/
structure RecOk (K : PySem.W.Frag) (rs : List Addr) (rec : Hp → RD → V → Prop) : Prop where
  mono : ∀ {H H' : Hp} {r : RD} {v : V}, Same H H' → rec H r v → rec H' r v
  row : ∀ {H : Hp} {r : RD} {v : V}, rec H r v → RowI K H rs r v
theorem RecOk.made (d : Nat) (hd : d ≤ 3) : RecOk K rs fun H r v => RMade K H rs d r v := ⟨fun e h => RMade.mono e d h, fun h => RMade.rowI hd h⟩
theorem RecOk.no : RecOk K rs fun _ _ _ => False := ⟨fun _ h => h, fun h => h.elim⟩
end
/-! ### notes -/
/-- a pair's two: a name and a modulus -/
def noteB : List V → Bool
  | [a, b] => ((kd0 a).s && nameV a) && ((kd0 b).i && !(kd0 b).b && fromV b 2 4)
  | _ => false
/-- all are notes, with names that are not known -/
def goodN : List Str → List (Option Str) → Bool
  | _, [] => true
  | known, some nm :: r => !(known.contains nm) && goodN (known ++ [nm]) r
  | _, none :: _ => false
section
variable {K : PySem.W.Frag}
/-- what may stand among notes: o tells its name, if it is one -/
inductive NoteV (K : PySem.W.Frag) (H : Hp) : V → Option Str → Prop
  | sc {v : V} (h : isPl v = true) : NoteV K H v none
  | lst {l : Addr} {xs : List V} (h : SqL K H l xs) : NoteV K H (.ref l) none
  | bad {t : Addr} {ys : List V} (h : SqT K H t ys) (z : ys.length ≤ 10) (p : ∀ y ∈ ys, isPl y = true ∧ ∀ x, y = .str x → x.length ≤ 1000) (b : noteB ys = false) : NoteV K H (.ref t) none
  | ok {t : Addr} {nm : Str} {m : Int} (h : SqT K H t [.str nm, .int m]) (hn : nameS nm = true) (hm : 2 ≤ m ∧ m ≤ 4) : NoteV K H (.ref t) (some nm)
theorem NoteV.mono {H H' : Hp} {v : V} {o : Option Str} (e : Same H H') (h : NoteV K H v o) : NoteV K H' v o := by
  cases h with
  | sc h => exact .sc h
  | lst h => exact .lst (Same.seqL e h)
  | bad h z p b => exact .bad (sameT e h) z p b
  | ok h hn hm => exact .ok (sameT e h) hn hm
/-- notes: a list or a tuple of values, or another value -/
inductive NotesA (K : PySem.W.Frag) (H : Hp) : V → Option (List V × List (Option Str)) → Prop
  | sc {v : V} (h : isPl v = true) : NotesA K H v none
  | seq {l : Addr} {xs : List V} {os : List (Option Str)} (h : SqL K H l xs ∨ SqT K H l xs) (p : Paired (fun x o => NoteV K H x o) xs os) (z : os.length ≤ 100) : NotesA K H (.ref l) (some (xs, os))
theorem NotesA.mono {H H' : Hp} {v : V} {o : Option (List V × List (Option Str))} (e : Same H H') (h : NotesA K H v o) : NotesA K H' v o := by
  cases h with
  | sc h => exact .sc h
  | seq h p z => exact .seq (h.imp (Same.seqL e) (sameT e)) (PairedI (fun _ _ q => NoteV.mono e q) p) z
end
/-! ### the slots that are needed -/
def mostL : Nat → List Nat → Nat
  | f, [] => f
  | f, s :: r => mostL (if f < s + 1 then s + 1 else f) r
section
variable {K : PySem.W.Frag}
end
/-! ### Chooser(rows, notes) -/
def looseB : RD → Bool
  | .frm _ g => !g
  | _ => false
def looseL : Nat → List RD → List Nat
  | _, [] => []
  | i, q :: r => if looseB q = true then i :: looseL (i + 1) r else looseL (i + 1) r
section
variable {K : PySem.W.Frag}
def chFl : List Str := ["notes", "rows", "numbered", "needs", "loose"]
/-- a chooser's fields -/
structure ChF (K : PySem.W.Frag) (H : Hp) (fs : List (Str × V)) (nv xs zs : List V) (need : Nat) (L : List Nat) : Prop where
  ex : ∃ a1 a2 a3 a5 : Addr, fs.lookup ("notes" : Str) = some (.ref a1) ∧ fs.lookup ("rows" : Str) = some (.ref a2) ∧ fs.lookup ("numbered" : Str) = some (.ref a3) ∧ fs.lookup ("needs" : Str) = some (.int (need : Nat)) ∧ fs.lookup ("loose" : Str) = some (.ref a5) ∧
    SqT K H a1 nv ∧ SqT K H a2 xs ∧ SqT K H a3 zs ∧ SqT K H a5 (natV L)
  non : ∀ f : Str, chFl.contains f = false → fs.lookup f = none
def namesO (os : List (Option Str)) : List Str := os.filterMap id
end
section
variable {K : PySem.W.Frag}
theorem RowI.kx {H H' : Hp} {x C dx : Addr} {gs : List (Str × V)} (hC : ∀ i, i < 18 → rs.getD i 0 ≠ C) (e : Kx x H H') (hx : H x = some (.ins C dx gs)) {q : RD} {z : V} (h : RowI K H rs q z) : RowI K H' rs q z := by
  obtain ⟨a, rfl, S, ex, ⟨dy, fs, ha, hp, hn, he⟩, hg⟩ := h
  have ne : a ≠ x := fun z => by
    subst z
    rw [ha] at hx
    cases hx
    exact hC (Hg.rIx q) (Nat.lt_of_lt_of_le (rIx_le q) (by decide)) rfl
  exact ⟨a, rfl, S, ex, ⟨dy, fs, e _ _ ne ha, hp.kx e hx, hn, he⟩, hg⟩
end
/-! ### all lines of a chooser -/
section
variable {K : PySem.W.Frag}
/-- notes as pairs -/
def NotesD (K : PySem.W.Frag) (H : Hp) (nv : List V) (N : List (Str × Nat)) : Prop := Paired (fun v q => ∃ t, v = .ref t ∧ SqT K H t [.str q.1, .int (q.2 : Int)] ∧ nameS q.1 = true ∧ q.2 ≤ 4) nv N
theorem NotesD.same {H H' : Hp} {nv : List V} {N : List (Str × Nat)} (e : Same H H') (h : NotesD K H nv N) : NotesD K H' nv N := PairedI (fun _ _ ⟨t, h1, h2, h3⟩ => ⟨t, h1, sameT e h2, h3⟩) h
end
section
variable {K : PySem.W.Frag}
end
/-! ### a chooser's text -/
section
variable {K : PySem.W.Frag}
end
/-! ### choosers of drawn rows -/
section
variable {K : PySem.W.Frag}
theorem paired_memL {α : Type} {R : V → α → Prop} : ∀ {xs : List V} {l : List α} {r : α}, Paired R xs l → r ∈ l → ∃ v, R v r
  | _, _, _, .cons a b, h => by
    rcases List.mem_cons.mp h with e | h
    · exact ⟨_, e ▸ a⟩
    · exact paired_memL b h
/-- a chooser made of drawn rows and notes -/
structure ChAt (K : PySem.W.Frag) (rs : List Addr) (aCh : Addr) (H : Hp) (x : Addr) (N : List (Str × Nat)) (rl : List RD) : Prop where
  ex : ∃ (dx : Addr) (fs : List (Str × V)) (nv xs zs : List V) (L : List Nat), H x = some (.ins aCh dx fs) ∧ ChF K H fs nv xs zs (mostL 1 (((rl.map (flatD 3)).flatten).map toldR).flatten) L ∧ NotesD K H nv N ∧ Paired (fun u r => RMade K H rs 3 r u) xs rl ∧ Paired (fun z q => RowI K H rs q z) zs (rl.map (flatD 3)).flatten
  lo : ∃ (dx : Addr) (fs : List (Str × V)) (a5 : Addr), H x = some (.ins aCh dx fs) ∧ fs.lookup ("loose" : Str) = some (.ref a5) ∧ SqT K H a5 (natV (looseL 0 (rl.map (flatD 3)).flatten))
theorem ChF.same {H H' : Hp} {fs : List (Str × V)} {nv xs zs : List V} {need : Nat} {L : List Nat} (e : Same H H') (h : ChF K H fs nv xs zs need L) : ChF K H' fs nv xs zs need L := by
  obtain ⟨⟨a1, a2, a3, a5, g1, g2, g3, g4, g5, t1, t2, t3, t5⟩, n⟩ := h
  exact ⟨⟨a1, a2, a3, a5, g1, g2, g3, g4, g5, sameT e t1, sameT e t2, sameT e t3, sameT e t5⟩, n⟩
theorem ChAt.same {H H' : Hp} {x : Addr} {N : List (Str × Nat)} {rl : List RD} (e : Same H H') (h : ChAt K rs aCh H x N rl) : ChAt K rs aCh H' x N rl := by
  obtain ⟨dx, fs, nv, xs, zs, L, h1, h2, h3, h4, h5⟩ := h.ex
  refine ⟨⟨dx, fs, nv, xs, zs, L, e _ _ h1, h2.same e, h3.same e, PairedI (fun v r z => RMade.mono e 3 z) h4, PairedI (fun v q z => RowI.mono e z) h5⟩, ?_⟩
  obtain ⟨dy, gs, a5, z1, z2, z3⟩ := h.lo
  exact ⟨dy, gs, a5, e _ _ z1, z2, sameT e z3⟩
end
/-! ### no note is lacking -/
section
variable {K : PySem.W.Frag}
end
/-! ### the first word of a line tells the class -/
def tIxT : TD → Nat
  | .slot w _ => tIx w
  | .anys => 15
  | .holds _ _ => 16
  | .neg _ => 17
section
variable {K : PySem.W.Frag}
theorem TMade.row {H : Hp} : ∀ {t : TD} {v : V}, TMade K H rs t v → ∃ a, v = .ref a ∧ ∃ U G ex, RowAt K H a (rs.getD (tIxT t) 0) [tText t] U G ex
  | .slot _ _, _, ⟨a, h1, h2⟩ => ⟨a, h1, _, _, _, h2⟩
  | .anys, _, ⟨a, h1, h2⟩ => ⟨a, h1, _, _, _, h2⟩
  | .holds _ _, _, ⟨a, h1, h2⟩ => ⟨a, h1, _, _, _, h2⟩
  | .neg _, _, ⟨a, u, h1, h2, h3⟩ => ⟨a, h1, _, _, _, h2⟩
end
/-! ### rows and tests made, in short -/
section
variable {K : PySem.W.Frag}
end
/-! ### two choosers -/
section
variable {K : PySem.W.Frag}
theorem NotesD.lx {H H' : Hp} {nv : List V} {N : List (Str × Nat)} (e : Lx H H') (h : NotesD K H nv N) : NotesD K H' nv N := PairedI (fun _ _ ⟨t, h1, h2, h3⟩ => ⟨t, h1, SqT.lx e h2, h3⟩) h
theorem ChF.lx {H H' : Hp} {fs : List (Str × V)} {nv xs zs : List V} {need : Nat} {L : List Nat} (e : Lx H H') (h : ChF K H fs nv xs zs need L) : ChF K H' fs nv xs zs need L := by
  obtain ⟨⟨a1, a2, a3, a5, g1, g2, g3, g4, g5, t1, t2, t3, t5⟩, n⟩ := h
  exact ⟨⟨a1, a2, a3, a5, g1, g2, g3, g4, g5, SqT.lx e t1, SqT.lx e t2, SqT.lx e t3, SqT.lx e t5⟩, n⟩
theorem ChAt.lx {H H' : Hp} {x : Addr} {N : List (Str × Nat)} {rl : List RD} (e : Lx H H') (h : ChAt K rs aCh H x N rl) : ChAt K rs aCh H' x N rl := by
  obtain ⟨dx, fs, nv, xs, zs, L, h1, h2, h3, h4, h5⟩ := h.ex
  refine ⟨⟨dx, fs, nv, xs, zs, L, e _ _ h1 (fun _ z => nomatch z), h2.lx e, h3.lx e, PairedI (fun v r z => RMade.lx e 3 z) h4, PairedI (fun v q z => RowI.lx e z) h5⟩, ?_⟩
  obtain ⟨dy, gs, a5, z1, z2, z3⟩ := h.lo
  exact ⟨dy, gs, a5, e _ _ z1 (fun _ z => nomatch z), z2, SqT.lx e z3⟩
/-- the world's notes -/
structure WN (K : PySem.W.Frag) (b : Addr) (H : Hp) (wd l : Addr) (nv : List V) (os : List (Option Str)) (N : List (Str × Nat)) (o : Option (Str × Int)) : Prop where
  nl : l ≠ b
  wd : ∃ sl : Int, H wd = some (.tup [.ref l, .int sl])
  hl : H l = some (.lst nv)
  pn : Paired (fun x o => NoteV K H x o) nv os
  gd : goodN [] os = true
  z : N.length ≤ 1
  nd : NotesD K H nv N
  us : ∀ nm m, o = some (nm, m) → (namesO os).contains nm = true
  em : nv = [] → o = none
  nm : ∀ q ∈ N, 2 ≤ q.2 ∧ q.2 ≤ 4 ∧ os = [some q.1] ∧ ∃ m, o = some (q.1, m)
theorem WN.len {b wd l : Addr} {H : Hp} {nv : List V} {os : List (Option Str)} {N : List (Str × Nat)} {o : Option (Str × Int)} (h : WN K b H wd l nv os N o) : nv.length = N.length ∧ os.length = N.length := ⟨Paired.length h.nd, (Paired.length h.pn).symm.trans (Paired.length h.nd)⟩
theorem WN.same {b wd l : Addr} {H H' : Hp} {nv : List V} {os : List (Option Str)} {N : List (Str × Nat)} {o : Option (Str × Int)} (e : Same H H') (h : WN K b H wd l nv os N o) : WN K b H' wd l nv os N o where
  nl := h.nl
  wd := let ⟨sl, q⟩ := h.wd; ⟨sl, e _ _ q⟩
  hl := e _ _ h.hl
  pn := PairedI (fun _ _ q => NoteV.mono e q) h.pn
  gd := h.gd
  z := h.z
  nd := h.nd.same e
  us := h.us
  em := h.em
  nm := h.nm
end
section
variable {K : PySem.W.Frag}
end
/-! ### the number that a word writes -/
def digitsL (l : List Nat) : Bool := l.all fun c => decide (48 ≤ c ∧ c ≤ 57)
def numOf (x : Str) : Option Nat :=
  if (1 ≤ x.length ∧ x.length ≤ 6) ∧ digitsL x.cps.toList = true ∧ (x = "0" ∨ x.cps.toList.head? ≠ some 48) then some (PySem.NumText.digitsVal x.cps.toList) else none
section
variable {K : PySem.W.Frag}
end
/-! ### what words write -/
def slotD (x : Str) : Option Nat := if x = "0" then some 0 else if x = "1" then some 1 else if x = "2" then some 2 else none
def modD (x : Str) : Option Nat := if x = "2" then some 2 else if x = "3" then some 3 else if x = "4" then some 4 else none
def slotO (w : Str) (n : Nat) : Option TD := if slotW.contains w = true then some (.slot w n) else none
def plainT (N : List Str) : List Str → Option TD
  | [a, b] => if a = "any" ∧ b = "sure" then some .anys else (slotD b).bind (slotO a)
  | [a, b, c] => if b = "is" ∧ N.contains a = true then (numOf c).map (.holds a) else none
  | _ => none
def notsW : List Str → Nat
  | [] => 0
  | w :: ws => if w = "not" then notsW ws + 1 else 0
def negN : Nat → TD → TD
  | 0, t => t
  | k + 1, t => .neg (negN k t)
def testW (N ws : List Str) : Option TD := (plainT N (ws.drop (notsW ws))).map (negN (notsW ws))
def noteW (N : List Str) : List Str → Option RD
  | [a, b, c] => if N.contains b = true then (numOf c).map (.chg (!(a == "put")) b) else none
  | _ => none
def slotWd : List Str → Option RD
  | a :: b :: r => (slotD b).bind fun n => if a = "keep" then (if r = [] then some (.keep n) else none) else if a = "from" ∧ (r = [] ∨ r = ([("if" : Str), "sure"])) then some (.frm n (decide (r ≠ []))) else none
  | _ => none
def rowW (N ws : List Str) : Option RD := if singleW.contains (Txt.join " " ws) = true then some (.one (Txt.join " " ws)) else if (["put", "add"] : List Str).contains (ws.headD "") = true then noteW N ws else slotWd ws
/-- a block that is open -/
structure Blk where
  asks : Option TD
  ahead : Option (List RD)
  found : List RD
/-- one line: what is known of notes, the blocks that are open, the inmost one -/
def stepW (at_ : Nat) (ws : List Str) : List (Str × Nat) × List Blk × Blk → Option (List (Str × Nat) × List Blk × Blk)
  | (N, bs, b) =>
    if ws.headD "" = "note" then
      match ws with
      | [_, nm, m] => if at_ = N.length ∧ nameS nm = true ∧ (N.map (·.1)).contains nm = false then (modD m).map fun k => (N ++ [(nm, k)], bs, b) else none
      | _ => none
    else if ws = ([("else" : Str)]) then (if bs = [] ∨ b.ahead ≠ none then none else some (N, bs, ⟨b.asks, some b.found, []⟩))
    else if ws = ([("end" : Str)]) then
      match bs.getLast?, b.asks with
      | some c, some t => some (N, bs.dropLast, ⟨c.asks, c.ahead, c.found ++ [match b.ahead with | none => RD.iff t b.found [] | some a => RD.iff t a b.found]⟩)
      | _, _ => none
    else if ws.headD "" = "if" then (testW (N.map (·.1)) (ws.drop 1)).map fun t => (N, bs ++ [b], ⟨some t, none, []⟩)
    else (rowW (N.map (·.1)) ws).map fun r => (N, bs, ⟨b.asks, b.ahead, b.found ++ [r]⟩)
/-- all lines, or the first one that is wrong -/
def runW : Nat → List Str → List (Str × Nat) × List Blk × Blk → Except Nat (List (Str × Nat) × List Blk × Blk)
  | _, [], s => .ok s
  | i, l :: ls, s => match stepW i (Txt.split l " ") s with
    | some s' => runW (i + 1) ls s'
    | none => .error i
/-! ### tests read from words -/
section
variable {K : PySem.W.Frag}
/-- the names known, as a dict -/
def DicN (H : Hp) (p : Addr) (N : List (Str × Nat)) : Prop := H p = some (.dK (N.map fun q => ((Sum.inr q.1 : Key), V.int (q.2 : Int))))
theorem dic_has : ∀ (N : List (Str × Nat)) (x : Str), (valV (N.map fun q => ((Sum.inr q.1 : Key), V.int (q.2 : Int))) (Sum.inr x)).isSome = (N.map (·.1)).contains x
  | [], _ => rfl
  | q :: N, x => by
    have ih := dic_has N x
    rw [List.map_cons, List.map_cons, List.contains_cons]
    by_cases e : q.1 = x
    · rw [valV_pos (p := ((Sum.inr q.1 : Key), V.int (q.2 : Int))) (by rw [e])]
      rw [e]
      simp
    · rw [valV_neg (p := ((Sum.inr q.1 : Key), V.int (q.2 : Int))) (fun z => e (Sum.inr.inj z)), ih, show (x == q.1) = false from beq_eq_false_iff_ne.mpr fun z => e z.symm, Bool.false_or]
end
/-! ### plain_test, test_of -/
section
variable {K : PySem.W.Frag}
end
/-! ### rows read from words -/
section
variable {K : PySem.W.Frag}
end
/-! ### what stays when lists, dicts and blocks change -/
def Zx (H H' : Hp) : Prop := ∀ a o, H a = some o → (∀ xs, o ≠ .lst xs) → (∀ k, o ≠ .dK k) → (∀ C dx fs, o = .ins C dx fs → fs.lookup ("script" : Str) ≠ none) → H' a = some o
theorem Zx.refl (H : Hp) : Zx H H := fun _ _ h _ _ _ => h
theorem Zx.trans {H H1 H2 : Hp} (e : Zx H H1) (g : Zx H1 H2) : Zx H H2 := fun a o h n1 n2 n3 => g a o (e a o h n1 n2 n3) n1 n2 n3
theorem Zx.same {H H' : Hp} (s : Same H H') : Zx H H' := fun a o h _ _ _ => s a o h
theorem Zx.updL {H : Hp} {l : Addr} {xs : List V} {o : HO} (hl : H l = some (.lst xs)) : Zx H (upd H l o) := fun a u h n1 _ _ => at_upd (fun z => by
  rw [z, hl] at h
  cases h
  exact n1 _ rfl) h
theorem Zx.updD {H : Hp} {l : Addr} {k : List (Key × V)} {o : HO} (hl : H l = some (.dK k)) : Zx H (upd H l o) := fun a u h _ n2 _ => at_upd (fun z => by
  rw [z, hl] at h
  cases h
  exact n2 _ rfl) h
theorem Zx.updI {H : Hp} {l C dx : Addr} {fs : List (Str × V)} {o : HO} (hl : H l = some (.ins C dx fs)) (hs : fs.lookup ("script" : Str) = none) : Zx H (upd H l o) := fun a u h _ _ n3 => at_upd (fun z => by
  rw [z, hl] at h
  cases h
  exact n3 _ _ _ rfl hs) h
section
variable {K : PySem.W.Frag}
theorem SqT.zx {H H' : Hp} {a : Addr} {xs : List V} (e : Zx H H') (h : SqT K H a xs) : SqT K H' a xs := by
  rcases h with (h | ⟨o, h⟩) | h
  · exact .inl (.inl (e _ _ h (fun _ z => nomatch z) (fun _ z => nomatch z) (fun _ _ _ z => nomatch z)))
  · exact .inl (.inr ⟨o, e _ _ h (fun _ z => nomatch z) (fun _ z => nomatch z) (fun _ _ _ z => nomatch z)⟩)
  · exact .inr h
theorem RowAt.zx {H H' : Hp} {x C : Addr} {S U : List Str} {G : List Nat} {ex : List (Str × V)} (e : Zx H H') (h : RowAt K H x C S U G ex) : RowAt K H' x C S U G ex := by
  obtain ⟨dx, fs, hx, ⟨a1, a2, a3, h1, h2, h3, t1, t2, t3⟩, hz, he⟩ := h
  exact ⟨dx, fs, e _ _ hx (fun _ z => nomatch z) (fun _ z => nomatch z) (fun _ _ _ z => by cases z; rw [h1]; simp), ⟨a1, a2, a3, h1, h2, h3, SqT.zx e t1, SqT.zx e t2, SqT.zx e t3⟩, hz, he⟩
theorem TMade.zx {H H' : Hp} (e : Zx H H') : ∀ {t : TD} {v : V}, TMade K H rs t v → TMade K H' rs t v
  | .slot _ _, _, ⟨a, h1, h2⟩ => ⟨a, h1, h2.zx e⟩
  | .anys, _, ⟨a, h1, h2⟩ => ⟨a, h1, h2.zx e⟩
  | .holds _ _, _, ⟨a, h1, h2⟩ => ⟨a, h1, h2.zx e⟩
  | .neg _, _, ⟨a, u, h1, h2, h3⟩ => ⟨a, u, h1, h2.zx e, TMade.zx e h3⟩
theorem RMadeF.zx {H H' : Hp} (e : Zx H H') {ln : RD → List Str} {r1 r2 : RD → V → Prop} (hr : ∀ r v, r1 r v → r2 r v) {r : RD} {v : V} (h : RMadeF K H rs ln r1 r v) : RMadeF K H' rs ln r2 r v := by
  obtain ⟨a, h1, h2⟩ := h
  refine ⟨a, h1, ?_⟩
  cases r with
  | iff t rs' os =>
    obtain ⟨tv, ra, oa, xs, ys, g1, g2, g3, g4, g5, g6⟩ := h2
    exact ⟨tv, ra, oa, xs, ys, RowAt.zx e g1, TMade.zx e g2, SqT.zx e g3, SqT.zx e g4, PairedI (fun v r z => hr r v z) g5, PairedI (fun v r z => hr r v z) g6⟩
  | one w => exact RowAt.zx e h2
  | keep n => exact RowAt.zx e h2
  | frm n g => exact RowAt.zx e h2
  | chg add nm n => exact RowAt.zx e h2
theorem RMade.zx {H H' : Hp} (e : Zx H H') : ∀ (d : Nat) {r : RD} {v : V}, RMade K H rs d r v → RMade K H' rs d r v
  | 0, _, _, h => RMadeF.zx e (fun _ _ z => z) h
  | d + 1, _, _, h => RMadeF.zx e (fun _ _ z => RMade.zx e d z) h
/-- a plain row is made at each depth -/
theorem RMade.up {H : Hp} {d : Nat} {r : RD} {v : V} (h : RMade K H rs 0 r v) (n : r.isIf = false) : RMade K H rs d r v := by
  cases r with
  | iff t rs' os => exact nomatch n
  | one w => cases d <;> exact h
  | keep k => cases d <;> exact h
  | frm k g => cases d <;> exact h
  | chg add nm k => cases d <;> exact h
theorem rowW_if {N ws : List Str} {r : RD} (h : rowW N ws = some r) : r.isIf = false := by
  have h1 : ∀ {ws : List Str}, noteW N ws = some r → r.isIf = false := fun {ws} h => by
    rcases ws with _ | ⟨a, _ | ⟨b, _ | ⟨c, _ | ⟨d, q⟩⟩⟩⟩
    · exact nomatch h
    · exact nomatch h
    · exact nomatch h
    · have h : (if N.contains b = true then (numOf c).map (RD.chg (!(a == "put")) b) else none) = some r := h
      split at h
      · obtain ⟨n, _, h⟩ := Option.map_eq_some_iff.mp h
        rw [← h]
        rfl
      · exact nomatch h
    · exact nomatch h
  have h2 : ∀ {ws : List Str}, slotWd ws = some r → r.isIf = false := fun {ws} h => by
    rcases ws with _ | ⟨a, _ | ⟨b, q⟩⟩
    · exact nomatch h
    · exact nomatch h
    · have h : ((slotD b).bind fun n => if a = "keep" then (if q = [] then some (RD.keep n) else none) else if a = "from" ∧ (q = [] ∨ q = ([("if" : Str), "sure"])) then some (.frm n (decide (q ≠ []))) else none) = some r := h
      obtain ⟨n, _, h⟩ := Option.bind_eq_some_iff.mp h
      split at h
      · split at h
        · cases h; rfl
        · cases h
      · split at h
        · cases h; rfl
        · cases h
  unfold rowW at h
  split at h
  · cases h; rfl
  · split at h
    · exact h1 h
    · exact h2 h
/-! ### open blocks -/
structure BlkI where
  x : Addr
  f : Addr
  a : Option Addr
  b : Blk
def AskAt (K : PySem.W.Frag) (H : Hp) (rs : List Addr) : Option TD → V → Prop
  | none, v => v = .non
  | some t, v => TMade K H rs t v ∧ (tText t).length ≤ 9000
def AhdAt (K : PySem.W.Frag) (H : Hp) (rs : List Addr) (d : Nat) : Option (List RD) → Option Addr → Prop
  | none, none => True
  | some rl, some a => ∃ ys, H a = some (.lst ys) ∧ Paired (fun u r => RMade K H rs d r u) ys rl
  | _, _ => False
def refO : Option Addr → V
  | none => .non
  | some a => .ref a
structure BlkAt (K : PySem.W.Frag) (H : Hp) (rs : List Addr) (aBl : Addr) (d : Nat) (i : BlkI) : Prop where
  ex : ∃ (dx : Addr) (fs : List (Str × V)) (va : V) (xs : List V), H i.x = some (.ins aBl dx fs) ∧ fs.length ≤ 3 ∧ fs.lookup ("script" : Str) = none ∧ fs.lookup ("asks" : Str) = some va ∧ AskAt K H rs i.b.asks va ∧ fs.lookup ("ahead" : Str) = some (refO i.a) ∧ fs.lookup ("found" : Str) = some (.ref i.f) ∧ H i.f = some (.lst xs) ∧ Paired (fun u r => RMade K H rs d r u) xs i.b.found
  ah : AhdAt K H rs d i.b.ahead i.a
/-- a block stays where its own objects do -/
theorem BlkAt.keep {H H' : Hp} {d : Nat} {i : BlkI} (z : Zx H H') (hx : H' i.x = H i.x) (hf : H' i.f = H i.f) (ha : ∀ a, i.a = some a → H' a = H a) (h : BlkAt K H rs aBl d i) : BlkAt K H' rs aBl d i := by
  obtain ⟨⟨dx, fs, va, xs, h1, h2, h3, h4, h5, h6, h7, h8, h9⟩, ah⟩ := h
  refine ⟨⟨dx, fs, va, xs, hx.trans h1, h2, h3, h4, ?_, h6, h7, hf.trans h8, PairedI (fun v r q => RMade.zx z d q) h9⟩, ?_⟩
  · cases e : i.b.asks with
    | none => rw [e] at h5; exact h5
    | some t => rw [e] at h5; exact ⟨h5.1.zx z, h5.2⟩
  · cases e1 : i.b.ahead with
    | none =>
      cases e2 : i.a with
      | none => trivial
      | some a => rw [e1, e2] at ah; exact ah
    | some rl =>
      cases e2 : i.a with
      | none => rw [e1, e2] at ah; exact ah
      | some a =>
        rw [e1, e2] at ah
        obtain ⟨ys, q1, q2⟩ := ah
        exact ⟨ys, (ha a e2).trans q1, PairedI (fun v r q => RMade.zx z d q) q2⟩
theorem BlkAt.same {H H' : Hp} {d : Nat} {i : BlkI} (s : Same H H') (h : BlkAt K H rs aBl d i) : BlkAt K H' rs aBl d i := by
  have g := h
  obtain ⟨⟨dx, fs, va, xs, h1, h2, h3, h4, h5, h6, h7, h8, h9⟩, ah⟩ := g
  refine h.keep (Zx.same s) ((s _ _ h1).trans h1.symm) ((s _ _ h8).trans h8.symm) fun a e => ?_
  cases e1 : i.b.ahead with
  | none => rw [e1, e] at ah; exact ah.elim
  | some rl =>
    rw [e1, e] at ah
    obtain ⟨ys, q1, q2⟩ := ah
    exact (s _ _ q1).trans q1.symm
/-- from the bottom: each one is a level less deep -/
def BlksAt (K : PySem.W.Frag) (H : Hp) (rs : List Addr) (aBl : Addr) : Nat → List BlkI → Prop
  | _, [] => True
  | d, i :: is => BlkAt K H rs aBl d i ∧ BlksAt K H rs aBl (d - 1) is
theorem BlksAt.snoc {H : Hp} {i : BlkI} : ∀ {is : List BlkI} {d : Nat}, BlksAt K H rs aBl d (is ++ [i]) ↔ BlksAt K H rs aBl d is ∧ BlkAt K H rs aBl (d - is.length) i
  | [], d => by
    show (BlkAt K H rs aBl d i ∧ True) ↔ (True ∧ BlkAt K H rs aBl (d - 0) i)
    simp
  | j :: is, d => by
    show (BlkAt K H rs aBl d j ∧ BlksAt K H rs aBl (d - 1) (is ++ [i])) ↔ ((BlkAt K H rs aBl d j ∧ BlksAt K H rs aBl (d - 1) is) ∧ BlkAt K H rs aBl (d - (is.length + 1)) i)
    rw [BlksAt.snoc (is := is), and_assoc, show d - 1 - is.length = d - (is.length + 1) by omega]
theorem BlksAt.map {H H' : Hp} : ∀ {is : List BlkI} {d : Nat}, (∀ i ∈ is, ∀ d, BlkAt K H rs aBl d i → BlkAt K H' rs aBl d i) → BlksAt K H rs aBl d is → BlksAt K H' rs aBl d is
  | [], _, _, _ => trivial
  | i :: is, d, h, ⟨a, b⟩ => ⟨h i (List.mem_cons_self ..) d a, BlksAt.map (fun j hj => h j (List.mem_cons_of_mem _ hj)) b⟩
def lstsO (i : BlkI) : List Addr := i.f :: i.a.toList
def lstsL (is : List BlkI) : List Addr := (is.map lstsO).flatten
/-- a reader, the lines that it reads (q), what it knows -/
structure RdS (K : PySem.W.Frag) (rs : List Addr) (aBl aRe : Addr) (D : Nat) (H0 H : Hp) (r kd bl q : Addr) (ys : List V) (N : List (Str × Nat)) (is : List BlkI) : Prop where
  s0 : Same H0 H
  rd : ∃ dx fs, H r = some (.ins aRe dx fs) ∧ fs.lookup ("known" : Str) = some (.ref kd) ∧ fs.lookup ("blocks" : Str) = some (.ref bl) ∧ ∀ f : Str, f ≠ "known" → f ≠ "blocks" → fs.lookup f = none
  dn : DicN H kd N
  bk : H bl = some (.lst (is.map fun i => .ref i.x))
  nl : (q :: bl :: lstsL is).Nodup
  nx : (r :: is.map (·.x)).Nodup
  f1 : H0 kd = none
  f2 : ∀ a ∈ bl :: lstsL is, H0 a = none
  f3 : ∀ i ∈ is, H0 i.x = none
  hq : H q = some (.lst ys)
  bs : BlksAt K H rs aBl D is
  nm : ∀ x ∈ N.map (·.1), nameS x = true
theorem RdS.same {D : Nat} {H0 H H' : Hp} {r kd bl q : Addr} {ys : List V} {N : List (Str × Nat)} {is : List BlkI} (s : Same H H') (h : RdS K rs aBl aRe D H0 H r kd bl q ys N is) : RdS K rs aBl aRe D H0 H' r kd bl q ys N is where
  s0 := h.s0.trans s
  rd := let ⟨dx, fs, h1, h2⟩ := h.rd; ⟨dx, fs, s _ _ h1, h2⟩
  dn := s _ _ h.dn
  bk := s _ _ h.bk
  nl := h.nl
  nx := h.nx
  f1 := h.f1
  f2 := h.f2
  f3 := h.f3
  hq := s _ _ h.hq
  bs := BlksAt.map (fun i _ d z => z.same s) h.bs
  nm := h.nm
end
/-! ### what reading changes -/
theorem putF_eq {f : Str} {v : V} : ∀ {fs : List (Str × V)}, fs.lookup f ≠ none → (putF f v fs).length = fs.length
  | [], h => absurd rfl h
  | (g, w) :: r, h => by
    unfold putF
    by_cases e : g = f
    · rw [if_pos e]
      rfl
    · rw [if_neg e, List.length_cons, List.length_cons, putF_eq (fs := r)]
      intro z
      apply h
      rw [List.lookup_cons, show (f == g) = false from beq_eq_false_iff_ne.mpr fun q => e q.symm]
      exact z
theorem upd_off {H : Hp} {c a : Addr} {o : HO} (h : a ≠ c) : upd H c o a = H a := by
  unfold upd
  rw [if_neg h]
section
variable {K : PySem.W.Frag}
theorem BlksAt.off {H : Hp} {c : Addr} {o : HO} {is : List BlkI} {d : Nat} (z : Zx H (upd H c o)) (n : ∀ i ∈ is, i.x ≠ c ∧ i.f ≠ c ∧ ∀ a, i.a = some a → a ≠ c) (h : BlksAt K H rs aBl d is) : BlksAt K (upd H c o) rs aBl d is :=
  BlksAt.map (fun i hi d b => b.keep z (upd_off (n i hi).1) (upd_off (n i hi).2.1) fun a e => upd_off ((n i hi).2.2 a e)) h
theorem lstsL_app (is js : List BlkI) : lstsL (is ++ js) = lstsL is ++ lstsL js := by
  unfold lstsL
  rw [List.map_append, List.flatten_append]
theorem lsts_mem {is : List BlkI} {i : BlkI} (h : i ∈ is) : i.f ∈ lstsL is ∧ ∀ a, i.a = some a → a ∈ lstsL is := by
  have sub : ∀ a, a ∈ lstsO i → a ∈ lstsL is := fun a ha => List.mem_flatten.mpr ⟨_, List.mem_map.mpr ⟨i, h, rfl⟩, ha⟩
  refine ⟨sub _ (List.mem_cons_self ..), fun a e => sub _ (List.mem_cons_of_mem _ ?_)⟩
  rw [e]
  exact List.mem_singleton.mpr rfl
theorem lstsL_one (i : BlkI) : lstsL [i] = lstsO i := by
  unfold lstsL
  rw [List.map_cons, List.map_nil, List.flatten_cons, List.flatten_nil, List.append_nil]
theorem BlksAt.at {H : Hp} : ∀ {is : List BlkI} {d : Nat} {i : BlkI}, BlksAt K H rs aBl d is → i ∈ is → ∃ d, BlkAt K H rs aBl d i
  | j :: is, d, i, ⟨a, b⟩, h => by
    rcases List.mem_cons.mp h with e | h
    · exact ⟨d, e ▸ a⟩
    · exact BlksAt.at b h
section
variable {D : Nat} {H0 H : Hp} {r kd bl q : Addr} {ys : List V} {N : List (Str × Nat)} {is : List BlkI} {i : BlkI}
theorem RdS.top (h : RdS K rs aBl aRe D H0 H r kd bl q ys N (is ++ [i])) : BlkAt K H rs aBl (D - is.length) i := (BlksAt.snoc.mp h.bs).2
/-- the top's own lists are no others -/
theorem RdS.apart (h : RdS K rs aBl aRe D H0 H r kd bl q ys N (is ++ [i])) : (∀ a ∈ lstsO i, a ≠ q ∧ a ≠ bl ∧ a ∉ lstsL is) ∧ (lstsO i).Nodup ∧ i.x ≠ r ∧ (∀ j ∈ is, j.x ≠ i.x) := by
  have n := h.nl
  rw [lstsL_app, lstsL_one, List.nodup_cons, List.nodup_cons, List.nodup_append] at n
  obtain ⟨n1, n2, n3, n4, n5⟩ := n
  have m := h.nx
  rw [List.map_append, List.nodup_cons, List.nodup_append] at m
  obtain ⟨m1, m2, m3, m4⟩ := m
  refine ⟨fun a ha => ⟨fun e => n1 (e ▸ List.mem_cons_of_mem _ (List.mem_append_right _ ha)), fun e => n2 (e ▸ List.mem_append_right _ ha), fun e => n5 a e a ha rfl⟩, n4, fun e => m1 (List.mem_append_right _ (show r ∈ [i.x] from List.mem_singleton.mpr e.symm)), fun j hj e => m4 j.x (List.mem_map.mpr ⟨j, hj, rfl⟩) i.x (List.mem_singleton.mpr rfl) e⟩
theorem RdS.ins_ne (h : RdS K rs aBl aRe D H0 H r kd bl q ys N is) {c : Addr} {xs : List V} (hc : H c = some (.lst xs)) : r ≠ c ∧ kd ≠ c ∧ ∀ j ∈ is, j.x ≠ c := by
  obtain ⟨dx, fs, h1, _⟩ := h.rd
  refine ⟨fun e => ?_, fun e => ?_, fun j hj e => ?_⟩
  · rw [e, hc] at h1
    cases h1
  · have g := h.dn
    unfold DicN at g
    rw [e, hc] at g
    cases g
  · obtain ⟨d, b⟩ := h.bs.at hj
    obtain ⟨_, _, _, _, b1, _⟩ := b.ex
    rw [e, hc] at b1
    cases b1
/-- a note more -/
theorem RdS.note (h : RdS K rs aBl aRe D H0 H r kd bl q ys N is) {nm : Str} {m : Nat} (hn : nameS nm = true) (hc : (N.map (·.1)).contains nm = false) :
    RdS K rs aBl aRe D H0 (upd H kd (.dK (putK (N.map fun q => ((Sum.inr q.1 : Key), V.int (q.2 : Int))) (Sum.inr nm) (.int (m : Int))))) r kd bl q ys (N ++ [(nm, m)]) is := by
  have z : Zx H (upd H kd (.dK (putK (N.map fun q => ((Sum.inr q.1 : Key), V.int (q.2 : Int))) (Sum.inr nm) (.int (m : Int))))) := Zx.updD h.dn
  have ne : ∀ {a : Addr} {xs : List V}, H a = some (.lst xs) → a ≠ kd := fun ha e => by
    have g := h.dn
    unfold DicN at g
    rw [← e, ha] at g
    cases g
  have ni : ∀ {a C dx : Addr} {fs : List (Str × V)}, H a = some (.ins C dx fs) → a ≠ kd := fun ha e => by
    have g := h.dn
    unfold DicN at g
    rw [← e, ha] at g
    cases g
  have e : putK (N.map fun q => ((Sum.inr q.1 : Key), V.int (q.2 : Int))) (Sum.inr nm) (.int (m : Int)) = (N ++ [(nm, m)]).map fun q => ((Sum.inr q.1 : Key), V.int (q.2 : Int)) := by
    unfold putK
    rw [if_neg (by rw [valV_any, dic_has, hc]; decide), List.map_append]
    rfl
  refine ⟨Same.updF h.s0 h.f1, ?_, ?_, at_upd (ne h.bk) h.bk, h.nl, h.nx, h.f1, h.f2, h.f3, at_upd (ne h.hq) h.hq, h.bs.off z fun j hj => ?_, ?_⟩
  · obtain ⟨dy, gs, g1, g2⟩ := h.rd
    exact ⟨dy, gs, at_upd (ni g1) g1, g2⟩
  · unfold DicN
    rw [upd_same, e]
  · obtain ⟨d, b⟩ := h.bs.at hj
    obtain ⟨⟨_, _, _, _, b1, _, _, _, _, _, _, b8, _⟩, ah⟩ := b
    refine ⟨ni b1, ne b8, fun a ea => ?_⟩
    cases eb : j.b.ahead with
    | none => rw [eb, ea] at ah; exact ah.elim
    | some rl =>
      rw [eb, ea] at ah
      obtain ⟨zs, q1, _⟩ := ah
      exact ne q1
  · intro x hx
    rw [List.map_append] at hx
    rcases List.mem_append.mp hx with hx | hx
    · exact h.nm x hx
    · rw [List.mem_singleton.mp hx]
      exact hn
/-- the other rows begin: ahead is what was found, found is a new list -/
theorem RdS.over (h : RdS K rs aBl aRe D H0 H r kd bl q ys N (is ++ [i])) {f' dx : Addr} {fs : List (Str × V)} (hf : H f' = none) (e1 : H i.x = some (.ins aBl dx fs)) (hb : i.b.ahead = none) :
    RdS K rs aBl aRe D H0 (upd (upd H f' (.lst [])) i.x (.ins aBl dx (putF "found" (.ref f') (putF "ahead" (.ref i.f) fs)))) r kd bl q ys N (is ++ [⟨i.x, f', some i.f, ⟨i.b.asks, some i.b.found, []⟩⟩]) := by
  have s1 : Same H (upd H f' (.lst [])) := same_new hf
  obtain ⟨ap, nd, xr, xj⟩ := h.apart
  have h1 := h.same s1
  have tp := h1.top
  have e1' := s1 _ _ e1
  have n0 : H0 f' = none := Same.free h.s0 hf
  have fi : i.f ∈ lstsO i := List.mem_cons_self ..
  -- f' is none of the lists that there are
  have fr : ∀ {a : Addr} {o : HO}, H a = some o → a ≠ f' := fun ha e => by
    rw [e, hf] at ha
    cases ha
  have frL : f' ∉ lstsL is := fun hm => by
    obtain ⟨l, hl, ha⟩ := List.mem_flatten.mp hm
    obtain ⟨j, hj, rfl⟩ := List.mem_map.mp hl
    obtain ⟨d, ⟨_, _, _, _, _, _, _, _, _, _, _, b8, _⟩, ah⟩ := h.bs.at (List.mem_append_left _ hj)
    rcases List.mem_cons.mp ha with e | ha
    · exact fr b8 e.symm
    · cases ea : j.a with
      | none => rw [ea] at ha; cases ha
      | some a =>
        rw [ea] at ha
        cases eb : j.b.ahead with
        | none => rw [eb, ea] at ah; exact ah.elim
        | some rl =>
          rw [eb, ea] at ah
          obtain ⟨zs, q1, _⟩ := ah
          exact fr q1 (List.mem_singleton.mp ha).symm
  have ia : i.a = none := by
    cases ea : i.a with
    | none => rfl
    | some a =>
      have ah := h.top.ah
      rw [hb, ea] at ah
      exact ah.elim
  obtain ⟨⟨dx', fs', va, xs, b1, b2, b3, b4, b5, b6, b7, b8, b9⟩, _⟩ := id tp
  obtain ⟨rfl, rfl⟩ : dx = dx' ∧ fs = fs' := by
    rw [e1'] at b1
    cases b1
    exact ⟨rfl, rfl⟩
  obtain ⟨_, _, _, _, _, _, _, _, _, _, _, c8, _⟩ := h.top.ex
  have z : Zx (upd H f' (.lst [])) (upd (upd H f' (.lst [])) i.x (.ins aBl dx (putF "found" (.ref f') (putF "ahead" (.ref i.f) fs)))) := Zx.updI e1' b3
  have nx : ∀ {a : Addr} {xs : List V}, (upd H f' (.lst [])) a = some (.lst xs) → a ≠ i.x := fun ha e => by
    rw [e, e1'] at ha
    cases ha
  have fx : f' ≠ i.x := nx upd_same
  have lkf : ∀ g : Str, g ≠ "found" → g ≠ "ahead" → (putF "found" (.ref f') (putF "ahead" (.ref i.f) fs)).lookup g = fs.lookup g := fun g n1 n2 => by rw [lk_ne n1, lk_ne n2]
  refine ⟨Same.updF h1.s0 (h.f3 i (List.mem_append_right _ (List.mem_singleton.mpr rfl))), ?_, ?_, ?_, ?_, ?_, h.f1, ?_, ?_, at_upd (nx h1.hq) h1.hq, BlksAt.snoc.mpr ⟨(BlksAt.snoc.mp h1.bs).1.off z fun j hj => ?_, ?_, ?_⟩, h.nm⟩
  · obtain ⟨dy, gs, g1, g2⟩ := h1.rd
    exact ⟨dy, gs, at_upd (Ne.symm xr) g1, g2⟩
  · exact at_upd (fun e => by
      have g := h1.dn
      unfold DicN at g
      rw [e, e1'] at g
      cases g) h1.dn
  · have g := h1.bk
    rw [List.map_append] at g ⊢
    exact at_upd (nx g) g
  · have g := h.nl
    rw [lstsL_app, lstsL_one] at g ⊢
    unfold lstsO at g ⊢
    rw [ia] at g
    simp only [Option.toList_none, Option.toList_some, List.nodup_cons, List.nodup_append, List.mem_append, List.mem_cons, List.not_mem_nil, or_false, not_or, false_or] at g ⊢
    obtain ⟨⟨g1, g2, g3⟩, ⟨g4, g5⟩, g6, g7, g8⟩ := g
    refine ⟨⟨g1, g2, fr h.hq, g3⟩, ⟨g4, fr h.bk, g5⟩, g6, ⟨fun e => fr c8 e.symm, by simp, List.nodup_nil⟩, ?_⟩
    intro a ha b hb
    rcases hb with rfl | rfl
    · exact fun e => frL (e ▸ ha)
    · exact g8 a ha _ rfl
  · have g := h.nx
    rw [List.map_append] at g ⊢
    exact g
  · intro a ha
    have g := h.f2
    rw [lstsL_app, lstsL_one] at g ha
    rcases List.mem_cons.mp ha with e | ha
    · exact g a (e ▸ List.mem_cons_self ..)
    rcases List.mem_append.mp ha with ha | ha
    · exact g a (List.mem_cons_of_mem _ (List.mem_append_left _ ha))
    · rcases List.mem_cons.mp ha with e | ha
      · rw [e]; exact n0
      · rw [List.mem_singleton.mp ha]
        exact g _ (List.mem_cons_of_mem _ (List.mem_append_right _ fi))
  · intro j hj
    rcases List.mem_append.mp hj with hj | hj
    · exact h.f3 j (List.mem_append_left _ hj)
    · rw [List.mem_singleton.mp hj]
      exact h.f3 i (List.mem_append_right _ (List.mem_singleton.mpr rfl))
  · obtain ⟨d, ⟨_, _, _, _, _, _, _, _, _, _, _, g8, _⟩, ah⟩ := h1.bs.at (List.mem_append_left _ hj)
    refine ⟨xj j hj, nx g8, fun a ea => ?_⟩
    cases eb : j.b.ahead with
    | none => rw [eb, ea] at ah; exact ah.elim
    | some rl =>
      rw [eb, ea] at ah
      obtain ⟨zs, q1, _⟩ := ah
      exact nx q1
  · refine ⟨dx, _, va, [], upd_same, ?_, ?_, ?_, ?_, ?_, lk_eq, at_upd fx upd_same, .nil⟩
    · rw [putF_eq (by rw [lk_ne (by decide +kernel), b7]; simp), putF_eq (by rw [b6]; simp)]
      exact b2
    · rw [lkf _ (by decide +kernel) (by decide +kernel)]
      exact b3
    · rw [lkf _ (by decide +kernel) (by decide +kernel)]
      exact b4
    · show AskAt K _ rs i.b.asks va
      cases ea : i.b.asks with
      | none => rw [ea] at b5; exact b5
      | some t => rw [ea] at b5; exact ⟨b5.1.zx z, b5.2⟩
    · rw [lk_ne (by decide +kernel)]
      exact lk_eq
  · exact ⟨xs, at_upd (nx b8) b8, PairedI (fun v r q => RMade.zx z _ q) b9⟩
/-- a block more: what is known of it -/
theorem RdS.open (h : RdS K rs aBl aRe D H0 H r kd bl q ys N is) {x f dx : Addr} {fs : List (Str × V)} {t : TD} {va : V} (hx : H x = some (.ins aBl dx fs)) (hf : H f = some (.lst [])) (n1 : x ∉ r :: is.map (·.x)) (n2 : f ∉ q :: bl :: lstsL is) (n3 : H0 x = none) (n4 : H0 f = none) (lk : fs.length ≤ 3) (l0 : fs.lookup ("script" : Str) = none) (l1 : fs.lookup ("asks" : Str) = some va) (l2 : fs.lookup ("ahead" : Str) = some .non) (l3 : fs.lookup ("found" : Str) = some (.ref f)) (ht : TMade K H rs t va) (hl : (tText t).length ≤ 9000) :
    RdS K rs aBl aRe D H0 (upd H bl (.lst ((is.map fun i => V.ref i.x) ++ [.ref x]))) r kd bl q ys N (is ++ [⟨x, f, none, ⟨some t, none, []⟩⟩]) := by
  have z : Zx H (upd H bl (.lst ((is.map fun i => V.ref i.x) ++ [.ref x]))) := Zx.updL h.bk
  obtain ⟨r1, k1, x1⟩ := h.ins_ne h.bk
  have nbl : bl ∉ lstsL is := fun e => by
    have g := h.nl
    rw [List.nodup_cons, List.nodup_cons] at g
    exact g.2.1 e
  have nq : q ≠ bl := fun e => by
    have g := h.nl
    rw [List.nodup_cons] at g
    exact g.1 (e ▸ List.mem_cons_self ..)
  have fb : f ≠ bl := fun e => n2 (e ▸ List.mem_cons_of_mem _ (List.mem_cons_self ..))
  have xb : x ≠ bl := fun e => by
    have g := h.bk
    rw [← e, hx] at g
    cases g
  refine ⟨Same.updF h.s0 (h.f2 bl (List.mem_cons_self ..)), ?_, at_upd k1 h.dn, ?_, ?_, ?_, h.f1, ?_, ?_, at_upd nq h.hq, BlksAt.snoc.mpr ⟨h.bs.off z fun j hj => ⟨x1 j hj, fun e => nbl (e ▸ (lsts_mem hj).1), fun a e e' => nbl (e' ▸ (lsts_mem hj).2 a e)⟩, ⟨dx, fs, va, [], at_upd xb hx, by omega, l0, l1, ⟨ht.zx z, hl⟩, l2, l3, at_upd fb hf, .nil⟩, trivial⟩, h.nm⟩
  · obtain ⟨dy, gs, g1, g2⟩ := h.rd
    exact ⟨dy, gs, at_upd r1 g1, g2⟩
  · rw [upd_same, List.map_append]
    rfl
  · have g := h.nl
    rw [lstsL_app, lstsL_one]
    show (q :: bl :: (lstsL is ++ [f])).Nodup
    have e : q :: bl :: (lstsL is ++ [f]) = (q :: bl :: lstsL is) ++ [f] := rfl
    rw [e, List.nodup_append]
    refine ⟨g, by simp, fun a ha b hb e => n2 ?_⟩
    rw [← List.mem_singleton.mp hb, ← e]
    exact ha
  · rw [List.map_append]
    show (r :: (is.map (·.x) ++ [x])).Nodup
    have e : r :: (is.map (·.x) ++ [x]) = (r :: is.map (·.x)) ++ [x] := rfl
    rw [e, List.nodup_append]
    refine ⟨h.nx, by simp, fun a ha b hb e => n1 ?_⟩
    rw [← List.mem_singleton.mp hb, ← e]
    exact ha
  · intro a ha
    rw [lstsL_app, lstsL_one] at ha
    rcases List.mem_cons.mp ha with e | ha
    · exact h.f2 a (e ▸ List.mem_cons_self ..)
    rcases List.mem_append.mp ha with ha | ha
    · exact h.f2 a (List.mem_cons_of_mem _ ha)
    · rw [List.mem_singleton.mp ha]
      exact n4
  · intro j hj
    rcases List.mem_append.mp hj with hj | hj
    · exact h.f3 j hj
    · rw [List.mem_singleton.mp hj]
      exact n3
end
end
/-! ### blocks and readers made -/
section
variable {K : PySem.W.Frag}
end
/-! ### one line -/
section
variable {K : PySem.W.Frag}
/-- the state that a line makes, as the reader holds it -/
abbrev StW := List (Str × Nat) × List Blk × Blk
def RdOk (K : PySem.W.Frag) (rs : List Addr) (aBl aRe : Addr) (D : Nat) (H0 H : Hp) (r kd bl q : Addr) (ys : List V) (s : StW) : Prop := ∃ (is : List BlkI) (i : BlkI), RdS K rs aBl aRe D H0 H r kd bl q ys s.1 (is ++ [i]) ∧ is.map (·.b) = s.2.1 ∧ i.b = s.2.2 ∧ s.2.1.length ≤ D ∧ D ≤ 1000
theorem RdOk.same {D : Nat} {H0 H H' : Hp} {r kd bl q : Addr} {ys : List V} {s : StW} (e : Same H H') (h : RdOk K rs aBl aRe D H0 H r kd bl q ys s) : RdOk K rs aBl aRe D H0 H' r kd bl q ys s :=
  let ⟨is, i, h1, h2⟩ := h
  ⟨is, i, h1.same e, h2⟩
theorem RdOk.rd {D : Nat} {H0 H : Hp} {r kd bl q : Addr} {ys : List V} {s : StW} (h : RdOk K rs aBl aRe D H0 H r kd bl q ys s) : ∃ dx fs, H r = some (.ins aRe dx fs) ∧ fs.lookup ("known" : Str) = some (.ref kd) ∧ fs.lookup ("blocks" : Str) = some (.ref bl) ∧ ∀ f : Str, f ≠ "known" → f ≠ "blocks" → fs.lookup f = none := by
  obtain ⟨is, i, h1, h2⟩ := h
  exact h1.rd
def noteStep (at_ : Nat) (ws : List Str) : StW → Option StW
  | (N, bs, b) => match ws with
    | [_, nm, m] => if at_ = N.length ∧ nameS nm = true ∧ (N.map (·.1)).contains nm = false then (modD m).map fun k => (N ++ [(nm, k)], bs, b) else none
    | _ => none
theorem modD_at {b : Str} {n : Nat} (h : modD b = some n) : 2 ≤ n ∧ n ≤ 4 ∧ PySem.intText? b = some (n : Int) ∧ b.length ≤ 100 := by
  unfold modD at h
  by_cases e0 : b = "2"
  · rw [if_pos e0] at h
    cases h
    rw [e0]
    exact ⟨by decide, by decide, by decide +kernel, by decide +kernel⟩
  rw [if_neg e0] at h
  by_cases e1 : b = "3"
  · rw [if_pos e1] at h
    cases h
    rw [e1]
    exact ⟨by decide, by decide, by decide +kernel, by decide +kernel⟩
  rw [if_neg e1] at h
  by_cases e2 : b = "4"
  · rw [if_pos e2] at h
    cases h
    rw [e2]
    exact ⟨by decide, by decide, by decide +kernel, by decide +kernel⟩
  rw [if_neg e2] at h
  cases h
def openStep (o : Option TD) : StW → Option StW
  | (N, bs, b) => o.map fun t => (N, bs ++ [b], ⟨some t, none, []⟩)
end
/-! ### else and end -/
def overStep : StW → Option StW
  | (N, bs, b) => if bs = [] ∨ b.ahead ≠ none then none else some (N, bs, ⟨b.asks, some b.found, []⟩)
section
variable {K : PySem.W.Frag}
def wB (D : Nat) (b : Blk) : Nat := (b.found.map (linesD D)).flatten.length + match b.ahead with | none => 0 | some a => (a.map (linesD D)).flatten.length
def closeStep : StW → Option StW
  | (N, bs, b) => match bs.getLast?, b.asks with
    | some c, some t => some (N, bs.dropLast, ⟨c.asks, c.ahead, c.found ++ [match b.ahead with | none => RD.iff t b.found [] | some a => RD.iff t a b.found]⟩)
    | _, _ => none
def okClose (D : Nat) (s : StW) : Prop := s.2.1 ≠ [] → (∃ t, s.2.2.asks = some t) ∧ wB D s.2.2 ≤ 900 ∧ ∀ c ∈ s.2.1, c.found.length ≤ 1000
end
/-! ### a line -/
def rowStep (o : Option RD) : StW → Option StW
  | (N, bs, b) => o.map fun r => (N, bs, ⟨b.asks, b.ahead, b.found ++ [r]⟩)
theorem stepW_eq (n : Nat) (ws : List Str) (N : List (Str × Nat)) (bs : List Blk) (b : Blk) : stepW n ws (N, bs, b) = if ws.headD "" = "note" then noteStep n ws (N, bs, b) else if ws = ([("else" : Str)]) then overStep (N, bs, b) else if ws = ([("end" : Str)]) then closeStep (N, bs, b) else if ws.headD "" = "if" then openStep (testW (N.map (·.1)) (ws.drop 1)) (N, bs, b) else rowStep (rowW (N.map (·.1)) ws) (N, bs, b) := by
  unfold stepW noteStep overStep closeStep openStep rowStep
  rfl
section
variable {K : PySem.W.Frag}
def okLine (D : Nat) (s : StW) : Prop := okClose D s ∧ s.2.2.found.length ≤ 1000
end
/-! ### texts split at a sign -/
/-! ### the states that lines make -/
mutual
def lnR : RD → Nat
  | .iff _ a b => lnL a + lnL b + 3
  | .one _ => 1
  | .keep _ => 1
  | .frm _ _ => 1
  | .chg _ _ _ => 1
def lnL : List RD → Nat
  | [] => 0
  | r :: rs => lnR r + lnL rs
end
theorem lnL_app : ∀ l m : List RD, lnL (l ++ m) = lnL l + lnL m
  | [], m => by rw [lnL, Nat.zero_add]; rfl
  | r :: l, m => by
    have ih := lnL_app l m
    rw [List.cons_append, lnL, lnL, ih, Nat.add_assoc]
theorem lnL_len : ∀ l : List RD, l.length ≤ lnL l
  | [] => Nat.zero_le _
  | r :: l => by
    have ih := lnL_len l
    have : 1 ≤ lnR r := by cases r <;> (rw [lnR]; omega)
    rw [lnL, List.length_cons]
    omega
theorem lnL_map {f : RD → List Str} (h : ∀ r, (f r).length ≤ lnR r) : ∀ l : List RD, (l.map f).flatten.length ≤ lnL l
  | [] => Nat.zero_le _
  | r :: l => by
    have ih := lnL_map h l
    have := h r
    rw [List.map_cons, List.flatten_cons, List.length_append, lnL]
    omega
theorem lnF {f : RD → List Str} (h : ∀ r, (f r).length ≤ lnR r) (r : RD) : (linesF f r).length ≤ lnR r := by
  cases r with
  | iff t a b =>
    have h1 := lnL_map h a
    have h2 := lnL_map h b
    show (ifLines [tText t] (a.map f) (b.map f)).length ≤ _
    unfold ifLines
    rw [lnR, List.length_cons, List.length_append, List.length_append]
    split
    · show _ + (0 + 1) + 1 ≤ _; omega
    · rw [List.length_cons]; show _ + (_ + 1 + 1) + 1 ≤ _; omega
  | one w => rw [lnR]; exact Nat.le_refl _
  | keep n => rw [lnR]; exact Nat.le_refl _
  | frm n g => rw [lnR]; exact Nat.le_refl _
  | chg a b c => rw [lnR]; exact Nat.le_refl _
theorem lnD : ∀ (d : Nat) (r : RD), (linesD d r).length ≤ lnR r
  | 0, r => lnF (fun r => by show 0 ≤ _; omega) r
  | d + 1, r => lnF (lnD d) r
def wgB (b : Blk) : Nat := lnL b.found + (match b.ahead with | none => 0 | some a => lnL a) + 3
def wgL : List Blk → Nat
  | [] => 0
  | b :: bs => wgB b + wgL bs
theorem wgL_app : ∀ l m : List Blk, wgL (l ++ m) = wgL l + wgL m
  | [], m => by show wgL m = 0 + wgL m; omega
  | b :: l, m => by
    have ih := wgL_app l m
    show wgB b + wgL (l ++ m) = wgB b + wgL l + wgL m
    omega
theorem wgL_mem : ∀ {l : List Blk} {b : Blk}, b ∈ l → wgB b ≤ wgL l
  | c :: l, b, h => by
    show _ ≤ wgB c + wgL l
    rcases List.mem_cons.mp h with e | h
    · rw [e]; omega
    · have := wgL_mem h
      omega
/-- behind so many lines -/
structure Good (n : Nat) (s : StW) : Prop where
  nl : s.1.length ≤ n
  nd : (s.1.map (·.1)).Nodup
  nv : ∀ q ∈ s.1, nameS q.1 = true ∧ 2 ≤ q.2 ∧ q.2 ≤ 4
  w : wgL (s.2.1 ++ [s.2.2]) ≤ 3 * n + 3
  a : ∀ c ∈ (s.2.1 ++ [s.2.2]).tail, c.asks ≠ none
theorem Good.line {n D : Nat} {s : StW} (h : Good n s) (hn : n ≤ 290) : okLine D s := by
  obtain ⟨N, bs, b⟩ := s
  have hw : wgL (bs ++ [b]) ≤ 3 * n + 3 := h.w
  have wb : ∀ c ∈ bs ++ [b], c.found.length ≤ 1000 ∧ wgB c ≤ 873 := fun c hc => by
    have h1 := wgL_mem hc
    have h2 := lnL_len c.found
    have h3 : lnL c.found ≤ wgB c := by unfold wgB; omega
    exact ⟨by omega, by omega⟩
  have bb := wb b (List.mem_append_right _ (List.mem_singleton.mpr rfl))
  refine ⟨fun nb => ⟨?_, ?_, fun c hc => (wb c (List.mem_append_left _ hc)).1⟩, bb.1⟩
  · have nb : bs ≠ [] := nb
    obtain ⟨c, cs, rfl⟩ := List.exists_cons_of_ne_nil nb
    have := h.a b (show b ∈ cs ++ [b] from List.mem_append_right _ (List.mem_singleton.mpr rfl))
    cases e : b.asks with
    | none => exact absurd e this
    | some t => exact ⟨t, rfl⟩
  · have h1 := lnL_map (lnD D) b.found
    have h4 := bb.2
    show wB D b ≤ 900
    unfold wB
    unfold wgB at h4
    cases e : b.ahead with
    | none =>
      rw [e] at h4
      show _ + 0 ≤ 900
      replace h4 : lnL b.found + 0 + 3 ≤ 873 := h4
      omega
    | some a =>
      rw [e] at h4
      have h2 := lnL_map (lnD D) a
      show _ + (a.map (linesD D)).flatten.length ≤ 900
      replace h4 : lnL b.found + lnL a + 3 ≤ 873 := h4
      omega
theorem tail_snoc {bs : List Blk} {b b' : Blk} (h : ∀ c ∈ (bs ++ [b]).tail, c.asks ≠ none) (e : bs ≠ [] → b'.asks ≠ none) : ∀ c ∈ (bs ++ [b']).tail, c.asks ≠ none := by
  cases bs with
  | nil => exact fun _ z => nomatch z
  | cons d bs =>
    intro c hc
    have hc : c ∈ bs ++ [b'] := hc
    rcases List.mem_append.mp hc with hc | hc
    · exact h c (show c ∈ bs ++ [b] from List.mem_append_left _ hc)
    · rw [List.mem_singleton.mp hc]
      exact e (by simp)
theorem Good.step {n : Nat} {s s' : StW} {ws : List Str} (h : Good n s) (e : stepW n ws s = some s') : Good (n + 1) s' := by
  obtain ⟨N, bs, b⟩ := s
  have hw : wgL (bs ++ [b]) ≤ 3 * n + 3 := h.w
  have ha := h.a
  have hb : bs ≠ [] → b.asks ≠ none := fun nb => by
    obtain ⟨c, cs, rfl⟩ := List.exists_cons_of_ne_nil nb
    exact ha b (show b ∈ cs ++ [b] from List.mem_append_right _ (List.mem_singleton.mpr rfl))
  rw [wgL_app] at hw
  replace hw : wgL bs + (wgB b + 0) ≤ 3 * n + 3 := hw
  have top : ∀ (b' : Blk), wgB b' ≤ wgB b + 3 → b'.asks = b.asks → Good (n + 1) (N, bs, b') := fun b' h1 h2 => by
    refine ⟨Nat.le_succ_of_le h.nl, h.nd, h.nv, ?_, tail_snoc ha fun nb => h2 ▸ hb nb⟩
    rw [wgL_app]
    show wgL bs + (wgB b' + 0) ≤ _
    omega
  rw [stepW_eq] at e
  split at e
  · unfold noteStep at e
    rcases ws with _ | ⟨x, _ | ⟨nm, _ | ⟨m, _ | ⟨d, w⟩⟩⟩⟩
    · exact nomatch e
    · exact nomatch e
    · exact nomatch e
    · replace e : (if n = N.length ∧ nameS nm = true ∧ (N.map (·.1)).contains nm = false then (modD m).map fun k => (N ++ [(nm, k)], bs, b) else none) = some s' := e
      split at e
      · obtain ⟨k, hk, e⟩ := Option.map_eq_some_iff.mp e
        subst e
        rename_i c
        have m4 := modD_at hk
        refine ⟨?_, ?_, ?_, ?_, ha⟩
        · have z : N.length ≤ n := h.nl
          show (N ++ [(nm, k)]).length ≤ n + 1
          rw [List.length_append]
          show N.length + 1 ≤ n + 1
          omega
        · have hd := h.nd
          show ((N ++ [(nm, k)]).map (·.1)).Nodup
          rw [List.map_append, List.nodup_append]
          refine ⟨hd, by simp, fun a ha b hb e => ?_⟩
          rw [List.mem_singleton.mp (show b ∈ [nm] from hb)] at e
          have z := c.2.2
          rw [List.contains_iff_mem.mpr (e ▸ ha)] at z
          cases z
        · intro q hq
          rcases List.mem_append.mp (show q ∈ N ++ [(nm, k)] from hq) with hq | hq
          · exact h.nv q hq
          · rw [List.mem_singleton.mp hq]
            exact ⟨c.2.1, m4.1, m4.2.1⟩
        · show wgL (bs ++ [b]) ≤ _
          rw [wgL_app]
          show wgL bs + (wgB b + 0) ≤ _
          omega
      · cases e
    · exact nomatch e
  split at e
  · replace e : (if bs = [] ∨ b.ahead ≠ none then none else some (N, bs, (⟨b.asks, some b.found, []⟩ : Blk))) = some s' := e
    split at e
    · cases e
    · rename_i c
      cases e
      refine top _ ?_ rfl
      unfold wgB
      show lnL [] + lnL b.found + 3 ≤ _
      rw [lnL]
      omega
  split at e
  · unfold closeStep at e
    rcases List.eq_nil_or_concat bs with rfl | ⟨bs', c, e2⟩
    · exact nomatch e
    rw [List.concat_eq_append] at e2
    subst e2
    cases ht : b.asks with
    | none =>
      simp only [ht, List.getLast?_concat] at e
      cases e
    | some t =>
      simp only [ht, List.getLast?_concat, List.dropLast_concat] at e
      cases e
      have hc : bs' ≠ [] → c.asks ≠ none := fun nb => by
        obtain ⟨c0, cs, rfl⟩ := List.exists_cons_of_ne_nil nb
        exact ha c (show c ∈ (cs ++ [c]) ++ [b] from List.mem_append_left _ (List.mem_append_right _ (List.mem_singleton.mpr rfl)))
      refine ⟨Nat.le_succ_of_le h.nl, h.nd, h.nv, ?_, ?_⟩
      · rw [wgL_app] at hw ⊢
        replace hw : wgL bs' + (wgB c + 0) + (wgB b + 0) ≤ 3 * n + 3 := hw
        show wgL bs' + (wgB _ + 0) ≤ _
        unfold wgB at hw ⊢
        show wgL bs' + (lnL (c.found ++ [match b.ahead with | none => RD.iff t b.found [] | some a => RD.iff t a b.found]) + (match c.ahead with | none => 0 | some a => lnL a) + 3 + 0) ≤ _
        rw [lnL_app, lnL, lnL]
        cases eb : b.ahead with
        | none =>
          rw [eb] at hw
          show wgL bs' + (lnL c.found + (lnR (RD.iff t b.found []) + 0) + _ + 3 + 0) ≤ _
          rw [lnR, lnL]
          replace hw : wgL bs' + (lnL c.found + (match c.ahead with | none => 0 | some a => lnL a) + 3 + 0) + (lnL b.found + 0 + 3 + 0) ≤ 3 * n + 3 := hw
          omega
        | some a =>
          rw [eb] at hw
          show wgL bs' + (lnL c.found + (lnR (RD.iff t a b.found) + 0) + _ + 3 + 0) ≤ _
          rw [lnR]
          replace hw : wgL bs' + (lnL c.found + (match c.ahead with | none => 0 | some a => lnL a) + 3 + 0) + (lnL b.found + lnL a + 3 + 0) ≤ 3 * n + 3 := hw
          omega
      · refine tail_snoc (b := c) (fun d hd => ha d ?_) hc
        cases bs' with
        | nil => exact nomatch hd
        | cons c0 cs => exact List.mem_append_left _ hd
  split at e
  · obtain ⟨t, _, e⟩ := Option.map_eq_some_iff.mp e
    subst e
    refine ⟨Nat.le_succ_of_le h.nl, h.nd, h.nv, ?_, ?_⟩
    · rw [wgL_app, wgL_app]
      have e3 : wgB ⟨some t, none, []⟩ = 3 := by
        unfold wgB
        show lnL [] + 0 + 3 = 3
        rw [lnL]
      show wgL bs + (wgB b + 0) + (wgB ⟨some t, none, []⟩ + 0) ≤ _
      omega
    · intro c hc
      cases bs with
      | nil =>
        rw [List.mem_singleton.mp (show c ∈ [(⟨some t, none, []⟩ : Blk)] from hc)]
        exact fun z => nomatch z
      | cons c0 cs =>
        rcases List.mem_append.mp (show c ∈ (cs ++ [b]) ++ [(⟨some t, none, []⟩ : Blk)] from hc) with hc | hc
        · exact ha c hc
        · rw [List.mem_singleton.mp hc]
          exact fun z => nomatch z
  · obtain ⟨r, hr, e⟩ := Option.map_eq_some_iff.mp e
    subst e
    refine top _ ?_ rfl
    have h1 : lnR r = 1 := by
      have := rowW_if hr
      cases r with
      | iff t a b => exact nomatch this
      | _ => rw [lnR]
    unfold wgB
    show lnL (b.found ++ [r]) + (match b.ahead with | none => 0 | some a => lnL a) + 3 ≤ lnL b.found + (match b.ahead with | none => 0 | some a => lnL a) + 3 + 3
    rw [lnL_app, lnL, lnL, h1]
    omega
/-! ### all lines -/
section
variable {K : PySem.W.Frag}
end
/-! ### Chooser.read -/
section
variable {K : PySem.W.Frag}
end
/-! ### the lines of rows, read -/
/-! ### whole texts, read -/
inductive Runs (D : Nat) : Nat → List Str → StW → StW → Prop
  | nil {i : Nat} {s : StW} (h : s.2.1.length ≤ D) : Runs D i [] s s
  | cons {i : Nat} {l : Str} {ls : List Str} {s s1 s2 : StW} (h : s.2.1.length ≤ D) (e : stepW i (Txt.split l " ") s = some s1) (r : Runs D (i + 1) ls s1 s2) : Runs D i (l :: ls) s s2
theorem Runs.run {D : Nat} {i : Nat} {L : List Str} {s s' : StW} (h : Runs D i L s s') : runW i L s = .ok s' ∧ ∀ j t, runW i (L.take j) s = .ok t → t.2.1.length ≤ D := by
  induction h with
  | nil h =>
    refine ⟨rfl, fun j t e => ?_⟩
    rw [List.take_nil] at e
    cases e
    exact h
  | @cons i l ls s s1 s2 h e r ih =>
    refine ⟨?_, fun j t e2 => ?_⟩
    · show (match stepW i (Txt.split l " ") s with | some s' => runW (i + 1) ls s' | none => Except.error i) = _
      rw [e]
      exact ih.1
    · cases j with
      | zero => cases e2; exact h
      | succ j =>
        have e2 : (match stepW i (Txt.split l " ") s with | some s' => runW (i + 1) (ls.take j) s' | none => Except.error i) = .ok t := e2
        rw [e] at e2
        exact ih.2 j t e2
section
variable {H : Hp} {D : Nat} {N : List (Str × Nat)}
end
/-! ### texts without line feeds in a line -/
/-! ### a chooser's text -/
section
variable {K : PySem.W.Frag}
end
/-! ### what rows come to in one turn -/
structure Mom where
  rests : List Nat
  signs : Str
  order : List Nat
  chosen : Option Nat
  kept : Option Nat
  over : Bool
def signAt (x : Str) (n : Nat) : Nat := x.cps.toList.getD n 0
def letW (w : Str) : Nat := if w = "sure" then 115 else if w = "missed" then 109 else if w = "bare" then 98 else 117
def spot (N : List (Str × Nat)) (nm : Str) : Nat := (N.map (·.1)).idxOf nm
def modN (N : List (Str × Nat)) (i : Nat) : Nat := (N.map (·.2)).getD i 1
def holdsP (N : List (Str × Nat)) (m : Mom) : TD → Bool
  | .slot w n => signAt m.signs n == letW w
  | .anys => decide (115 ∈ m.signs.cps.toList)
  | .holds nm n => m.rests.getD (spot N nm) 0 == n % modN N (spot N nm)
  | .neg t => !holdsP N m t
def oldestP (m : Mom) : Option Nat := if 98 ∈ m.signs.cps.toList then some (m.signs.cps.toList.idxOf 98) else m.order.getLast?
def sureP (m : Mom) : List Nat := m.order.filter fun n => signAt m.signs n == 115
def groundP (m : Mom) : RD → Option Nat
  | .frm n g => if signAt m.signs n = 98 ∨ (g = true ∧ signAt m.signs n ≠ 115) then none else some n
  | .one w => if w = "whole" then none else if w = "newest" then (sureP m).head? else (sureP m).getLast?
  | _ => none
def oneP (w : Str) (m : Mom) : Mom := if w = "stop" then { m with over := true } else if w = "keep none" then { m with kept := none } else if w = "keep oldest" then { m with kept := oldestP m } else { m with chosen := groundP m (.one w) }
def chgP (N : List (Str × Nat)) (add : Bool) (nm : Str) (n : Nat) (l : List Nat) : List Nat := l.set (spot N nm) (((if add = true then l.getD (spot N nm) 0 else 0) + n) % modN N (spot N nm))
mutual
def doR (N : List (Str × Nat)) : RD → Mom → Mom
  | .iff t rs os, m => if holdsP N m t = true then doL N rs m else doL N os m
  | .chg add nm n, m => { m with rests := chgP N add nm n m.rests }
  | .keep n, m => { m with kept := some n }
  | .frm n g, m => { m with chosen := groundP m (.frm n g) }
  | .one w, m => oneP w m
def doL (N : List (Str × Nat)) : List RD → Mom → Mom
  | [], m => m
  | r :: rs, m => doL N rs (if m.over = true then m else doR N r m)
end
/-- rows whose notes and slots there are -/
def okT (N : List Str) (L : Nat) : TD → Prop
  | .slot w n => n < L ∧ w ∈ slotW
  | .anys => True
  | .holds nm _ => N.contains nm = true
  | .neg t => okT N L t
mutual
def okR (N : List Str) (L : Nat) : RD → Prop
  | .iff t rs os => okT N L t ∧ okLs N L rs ∧ okLs N L os
  | .chg _ nm _ => N.contains nm = true
  | .keep n => n < L
  | .frm n _ => n < L
  | .one w => w ∈ singleW
def okLs (N : List Str) (L : Nat) : List RD → Prop
  | [] => True
  | r :: rs => okR N L r ∧ okLs N L rs
end
/-- blocks at most so deep, tests within nots at most twice -/
def dpR : Nat → RD → Prop
  | 0, .iff _ _ _ => False
  | d + 1, .iff t rs os => t.dep ≤ 2 ∧ (∀ r ∈ rs, dpR d r) ∧ (∀ r ∈ os, dpR d r)
  | _, _ => True
theorem okLs_of {N : List Str} {L : Nat} : ∀ {l : List RD}, (∀ r ∈ l, okR N L r) → okLs N L l
  | [], _ => by rw [okLs]; trivial
  | x :: l, h => by
    rw [okLs]
    exact ⟨h x (List.mem_cons_self ..), okLs_of fun r hr => h r (List.mem_cons_of_mem _ hr)⟩
/-- what holds of a moment -/
structure MomP (N : List (Str × Nat)) (L : Nat) (m : Mom) : Prop where
  rl : m.rests.length = N.length
  rm : ∀ i, i < N.length → m.rests.getD i 0 < 5
  sl : m.signs.cps.toList.length = L
  sa : ∀ c ∈ m.signs.cps.toList, c = 98 ∨ c = 117 ∨ c = 115 ∨ c = 109
  ol : ∀ n ∈ m.order, n < L
  on : m.order.length ≤ L
  oe : 98 ∉ m.signs.cps.toList → m.order ≠ []
  cl : ∀ n, m.chosen = some n → n < L ∧ signAt m.signs n ≠ 98
  kl : ∀ n, m.kept = some n → n < L
theorem set_get {l : List Nat} {i j x d : Nat} (h : i < l.length) : (l.set i x).getD j d = if j = i then x else l.getD j d := by
  simp only [List.getD_eq_getElem?_getD, List.getElem?_set]
  by_cases e : i = j
  · rw [if_pos e, if_pos e.symm, if_pos h]
    rfl
  · rw [if_neg e, if_neg (Ne.symm e)]
theorem spot_lt {N : List (Str × Nat)} {nm : Str} (h : (N.map (·.1)).contains nm = true) : spot N nm < N.length := by
  have := List.idxOf_lt_length_of_mem (List.contains_iff_mem.mp h)
  rw [List.length_map] at this
  exact this
/-- the moduli are at least 2 and at most 4 -/
def modsOk (N : List (Str × Nat)) : Prop := ∀ q ∈ N, 2 ≤ q.2 ∧ q.2 ≤ 4
theorem modN_at {N : List (Str × Nat)} {i : Nat} (h : i < N.length) : ∃ q ∈ N, modN N i = q.2 ∧ N[i]? = some q := by
  refine ⟨N[i], List.getElem_mem h, ?_, List.getElem?_eq_getElem h⟩
  unfold modN
  rw [List.getD_eq_getElem?_getD, List.getElem?_map, List.getElem?_eq_getElem h]
  rfl
theorem modN_ok {N : List (Str × Nat)} (hN : modsOk N) {i : Nat} (h : i < N.length) : 2 ≤ modN N i ∧ modN N i ≤ 4 := by
  obtain ⟨q, hq, e, _⟩ := modN_at h
  rw [e]
  exact hN q hq
theorem MomP.rests {N : List (Str × Nat)} {L : Nat} {m : Mom} (h : MomP N L m) (hN : modsOk N) {add : Bool} {nm : Str} {n : Nat} (hn : (N.map (·.1)).contains nm = true) : MomP N L { m with rests := chgP N add nm n m.rests } := by
  have hs := spot_lt hn
  have hm := modN_ok hN hs
  have hl : spot N nm < m.rests.length := by rw [h.rl]; exact hs
  refine { rl := ?_, rm := fun i hi => ?_, sl := h.sl, sa := h.sa, ol := h.ol, on := h.on, oe := h.oe, cl := h.cl, kl := h.kl }
  · show (List.set _ _ _).length = _
    rw [List.length_set]
    exact h.rl
  · show (List.set _ _ _).getD i 0 < 5
    rw [set_get hl]
    split
    · exact Nat.lt_of_lt_of_le (Nat.mod_lt _ (by omega)) (by omega)
    · exact h.rm i hi
theorem oldest_lt {N : List (Str × Nat)} {L : Nat} {m : Mom} (h : MomP N L m) : ∃ n, oldestP m = some n ∧ n < L := by
  unfold oldestP
  split
  · rename_i c
    exact ⟨_, rfl, by have := List.idxOf_lt_length_of_mem c; rw [h.sl] at this; exact this⟩
  · rename_i c
    have := h.oe c
    cases e : m.order.getLast? with
    | none => exact absurd (List.getLast?_eq_none_iff.mp e) this
    | some n => exact ⟨n, rfl, h.ol n (List.mem_of_getLast? e)⟩
theorem sure_lt {N : List (Str × Nat)} {L : Nat} {m : Mom} (h : MomP N L m) {n : Nat} (hn : n ∈ sureP m) : n < L ∧ signAt m.signs n ≠ 98 := by
  obtain ⟨h1, h2⟩ := List.mem_filter.mp hn
  refine ⟨h.ol n h1, fun e => ?_⟩
  rw [e] at h2
  exact absurd h2 (by decide)
theorem ground_lt {N : List (Str × Nat)} {L : Nat} {m : Mom} (h : MomP N L m) {r : RD} {Ns : List Str} (hr : okR Ns L r) : ∀ n, groundP m r = some n → n < L ∧ signAt m.signs n ≠ 98 := by
  intro n e
  cases r with
  | frm k g =>
    rw [okR] at hr
    have e : (if signAt m.signs k = 98 ∨ (g = true ∧ signAt m.signs k ≠ 115) then none else some k) = some n := e
    split at e
    · cases e
    · rename_i c
      cases e
      exact ⟨hr, fun z => c (.inl z)⟩
  | one w =>
    have e : (if w = "whole" then none else if w = "newest" then (sureP m).head? else (sureP m).getLast?) = some n := e
    split at e
    · cases e
    · split at e
      · exact sure_lt h (List.mem_of_head? e)
      · exact sure_lt h (List.mem_of_getLast? e)
  | keep k => cases e
  | chg a b c => cases e
  | iff a b c => cases e
theorem MomP.over {N : List (Str × Nat)} {L : Nat} {m : Mom} (h : MomP N L m) (b : Bool) : MomP N L { m with over := b } := { rl := h.rl, rm := h.rm, sl := h.sl, sa := h.sa, ol := h.ol, on := h.on, oe := h.oe, cl := h.cl, kl := h.kl }
theorem MomP.kept {N : List (Str × Nat)} {L : Nat} {m : Mom} (h : MomP N L m) {o : Option Nat} (ho : ∀ n, o = some n → n < L) : MomP N L { m with kept := o } := { rl := h.rl, rm := h.rm, sl := h.sl, sa := h.sa, ol := h.ol, on := h.on, oe := h.oe, cl := h.cl, kl := ho }
theorem MomP.chosen {N : List (Str × Nat)} {L : Nat} {m : Mom} (h : MomP N L m) {o : Option Nat} (ho : ∀ n, o = some n → n < L ∧ signAt m.signs n ≠ 98) : MomP N L { m with chosen := o } := { rl := h.rl, rm := h.rm, sl := h.sl, sa := h.sa, ol := h.ol, on := h.on, oe := h.oe, cl := ho, kl := h.kl }
theorem MomP.one {N : List (Str × Nat)} {L : Nat} {m : Mom} (h : MomP N L m) {w : Str} {Ns : List Str} (hw : w ∈ singleW) : MomP N L (oneP w m) := by
  unfold oneP
  split
  · exact h.over true
  split
  · exact h.kept fun n e => nomatch e
  split
  · exact h.kept fun n e => by
      obtain ⟨k, e2, hk⟩ := oldest_lt h
      rw [e2] at e
      cases e
      exact hk
  · exact h.chosen (ground_lt (Ns := Ns) h (by rw [okR]; exact hw))
mutual
theorem MomP.doR {N : List (Str × Nat)} {L : Nat} (hN : modsOk N) : ∀ {r : RD} {m : Mom}, MomP N L m → okR (N.map (·.1)) L r → MomP N L (doR N r m)
  | .iff t rs os, m, h, hr => by
    rw [okR] at hr
    rw [Hg.doR]
    split
    · exact MomP.doL hN h hr.2.1
    · exact MomP.doL hN h hr.2.2
  | .chg add nm n, m, h, hr => by
    rw [okR] at hr
    rw [Hg.doR]
    exact h.rests hN hr
  | .keep n, m, h, hr => by
    rw [okR] at hr
    rw [Hg.doR]
    exact h.kept fun k e => by cases e; exact hr
  | .frm n g, m, h, hr => by
    rw [Hg.doR]
    exact h.chosen (ground_lt h hr)
  | .one w, m, h, hr => by
    rw [okR] at hr
    rw [Hg.doR]
    exact h.one (Ns := []) hr
theorem MomP.doL {N : List (Str × Nat)} {L : Nat} (hN : modsOk N) : ∀ {l : List RD} {m : Mom}, MomP N L m → okLs (N.map (·.1)) L l → MomP N L (doL N l m)
  | [], m, h, _ => by rw [Hg.doL]; exact h
  | r :: l, m, h, hr => by
    rw [okLs] at hr
    rw [Hg.doL]
    refine MomP.doL hN ?_ hr.2
    split
    · exact h
    · exact MomP.doR hN h hr.1
end
/-! ### houses, moments -/
def oV : Option Nat → V
  | none => .non
  | some n => .int (n : Int)
structure Hou where
  slots : Nat
  late : Nat
  losses : Option Nat
  window : Nat
structure HouOk (h : Hou) : Prop where
  s1 : 1 ≤ h.slots
  s3 : h.slots ≤ 3
  l3 : h.late ≤ 3
  o4 : ∀ n, h.losses = some n → n ≤ 4
  w1 : 1 ≤ h.window
  w4 : h.window ≤ 4
section
variable {K : PySem.W.Frag}
structure HoF (fs : List (Str × V)) (h : Hou) : Prop where
  f1 : fs.lookup ("slots" : Str) = some (.int (h.slots : Int))
  f2 : fs.lookup ("lateness" : Str) = some (.int (h.late : Int))
  f3 : fs.lookup ("losses" : Str) = some (oV h.losses)
  f4 : fs.lookup ("window" : Str) = some (.int (h.window : Int))
  no : ∀ f, f ∈ [("is_lost" : Str), "fates_behind", "but"] → fs.lookup f = none
def HoAt (aHo : Addr) (H : Hp) (x : Addr) (h : Hou) : Prop := ∃ dx fs, H x = some (.ins aHo dx fs) ∧ HoF fs h ∧ HouOk h
theorem HoAt.same {H H' : Hp} {x : Addr} {h : Hou} (e : Same H H') (q : HoAt aHo H x h) : HoAt aHo H' x h := by
  obtain ⟨dx, fs, h1, h2⟩ := q
  exact ⟨dx, fs, e _ _ h1, h2⟩
end
/-! ### a brain, a moment -/
def kvN (N : List (Str × Nat)) : List (Key × V) := N.zipIdx.map fun q => ((Sum.inr q.1.1 : Key), V.int (q.2 : Int))
section
variable {K : PySem.W.Frag}
structure BrF (K : PySem.W.Frag) (H : Hp) (fs : List (Str × V)) (N : List (Str × Nat)) (tr : Addr) : Prop where
  f1 : fs.lookup ("begin_rows" : Str) = some (.ref tr)
  ex : ∃ tm sp to, fs.lookup ("moduli" : Str) = some (.ref tm) ∧ SqT K H tm (natV (N.map (·.2))) ∧ fs.lookup ("spots" : Str) = some (.ref sp) ∧ H sp = some (.dK (kvN N)) ∧ fs.lookup ("opening" : Str) = some (.ref to) ∧ SqT K H to (natV (List.replicate N.length 0)) ∧
    fs.lookup ("do_rows" : Str) = none ∧ fs.lookup ("do_one" : Str) = none ∧ fs.lookup ("noted" : Str) = none ∧ fs.lookup ("holds" : Str) = none ∧ fs.lookup ("choose" : Str) = none
def BrAt (K : PySem.W.Frag) (aBr : Addr) (H : Hp) (b : Addr) (N : List (Str × Nat)) (tr : Addr) : Prop := ∃ dx fs, H b = some (.ins aBr dx fs) ∧ BrF K H fs N tr
theorem BrAt.same {H H' : Hp} {b tr : Addr} {N : List (Str × Nat)} (e : Same H H') (h : BrAt K aBr H b N tr) : BrAt K aBr H' b N tr := by
  obtain ⟨dx, fs, h1, f1, tm, sp, to, f2, t2, f3, t3, f4, t4, no⟩ := h
  exact ⟨dx, fs, e _ _ h1, f1, tm, sp, to, f2, sameT e t2, f3, e _ _ t3, f4, sameT e t4, no⟩
structure MomF (K : PySem.W.Frag) (H : Hp) (fs : List (Str × V)) (m : Mom) : Prop where
  z : fs.length ≤ 6
  f1 : ∃ t, fs.lookup ("held_rests" : Str) = some (.ref t) ∧ SqT K H t (natV m.rests)
  f2 : fs.lookup ("signs" : Str) = some (.str m.signs)
  f3 : ∃ t, fs.lookup ("newest_first" : Str) = some (.ref t) ∧ SqT K H t (natV m.order)
  f4 : fs.lookup ("chosen" : Str) = some (oV m.chosen)
  f5 : fs.lookup ("kept_in" : Str) = some (oV m.kept)
  f6 : fs.lookup ("is_over" : Str) = some (.bl m.over)
def MomAt (K : PySem.W.Frag) (aMn : Addr) (H : Hp) (a : Addr) (m : Mom) : Prop := ∃ dx fs, H a = some (.ins aMn dx fs) ∧ MomF K H fs m
theorem MomF.heap {H H' : Hp} {fs : List (Str × V)} {m : Mom} (h : MomF K H fs m) (e : ∀ t xs, SqT K H t xs → SqT K H' t xs) : MomF K H' fs m := by
  obtain ⟨z, ⟨t, h1, h2⟩, f2, ⟨u, h3, h4⟩, f4, f5, f6⟩ := h
  exact ⟨z, ⟨t, h1, e _ _ h2⟩, f2, ⟨u, h3, e _ _ h4⟩, f4, f5, f6⟩
theorem MomAt.same {H H' : Hp} {a : Addr} {m : Mom} (e : Same H H') (h : MomAt K aMn H a m) : MomAt K aMn H' a m := by
  obtain ⟨dx, fs, h1, h2⟩ := h
  exact ⟨dx, fs, e _ _ h1, h2.heap fun t xs q => sameT e q⟩
theorem lk_some {f : Str} {v : V} {fs : List (Str × V)} (h : fs.lookup f = some v) : fs.lookup f ≠ none := by rw [h]; exact fun z => nomatch z
theorem sqT_ins {H : Hp} {a t C dx : Addr} {fs gs : List (Str × V)} {xs : List V} (ha : H a = some (.ins C dx fs)) (h : SqT K H t xs) : SqT K (upd H a (.ins C dx gs)) t xs := by
  rcases h with (h | ⟨o, h⟩) | h
  · exact .inl (.inl (at_upd (fun e => by rw [e, ha] at h; cases h) h))
  · exact .inl (.inr ⟨o, at_upd (fun e => by rw [e, ha] at h; cases h) h⟩)
  · exact .inr h
/-- fields of a moment set -/
theorem MomAt.over {H : Hp} {a dx : Addr} {fs : List (Str × V)} {m : Mom} (ha : H a = some (.ins aMn dx fs)) (h : MomF K H fs m) : MomAt K aMn (upd H a (.ins aMn dx (putF "is_over" (.bl true) fs))) a { m with over := true } := by
  obtain ⟨z, ⟨t, h1, h2⟩, f2, ⟨u, h3, h4⟩, f4, f5, f6⟩ := h
  refine ⟨dx, _, upd_same, ⟨by rw [putF_eq (lk_some f6)]; exact z, ⟨t, by rw [lk_ne (by decide +kernel)]; exact h1, sqT_ins ha h2⟩, by rw [lk_ne (by decide +kernel)]; exact f2, ⟨u, by rw [lk_ne (by decide +kernel)]; exact h3, sqT_ins ha h4⟩, by rw [lk_ne (by decide +kernel)]; exact f4, by rw [lk_ne (by decide +kernel)]; exact f5, lk_eq⟩⟩
theorem MomAt.keep {H : Hp} {a dx : Addr} {fs : List (Str × V)} {m : Mom} (ha : H a = some (.ins aMn dx fs)) (h : MomF K H fs m) (o : Option Nat) : MomAt K aMn (upd H a (.ins aMn dx (putF "kept_in" (oV o) fs))) a { m with kept := o } := by
  obtain ⟨z, ⟨t, h1, h2⟩, f2, ⟨u, h3, h4⟩, f4, f5, f6⟩ := h
  refine ⟨dx, _, upd_same, ⟨by rw [putF_eq (lk_some f5)]; exact z, ⟨t, by rw [lk_ne (by decide +kernel)]; exact h1, sqT_ins ha h2⟩, by rw [lk_ne (by decide +kernel)]; exact f2, ⟨u, by rw [lk_ne (by decide +kernel)]; exact h3, sqT_ins ha h4⟩, by rw [lk_ne (by decide +kernel)]; exact f4, lk_eq, by rw [lk_ne (by decide +kernel)]; exact f6⟩⟩
theorem MomAt.choose {H : Hp} {a dx : Addr} {fs : List (Str × V)} {m : Mom} (ha : H a = some (.ins aMn dx fs)) (h : MomF K H fs m) (o : Option Nat) : MomAt K aMn (upd H a (.ins aMn dx (putF "chosen" (oV o) fs))) a { m with chosen := o } := by
  obtain ⟨z, ⟨t, h1, h2⟩, f2, ⟨u, h3, h4⟩, f4, f5, f6⟩ := h
  refine ⟨dx, _, upd_same, ⟨by rw [putF_eq (lk_some f4)]; exact z, ⟨t, by rw [lk_ne (by decide +kernel)]; exact h1, sqT_ins ha h2⟩, by rw [lk_ne (by decide +kernel)]; exact f2, ⟨u, by rw [lk_ne (by decide +kernel)]; exact h3, sqT_ins ha h4⟩, lk_eq, by rw [lk_ne (by decide +kernel)]; exact f5, by rw [lk_ne (by decide +kernel)]; exact f6⟩⟩
theorem MomAt.rests {H : Hp} {a dx t9 : Addr} {fs : List (Str × V)} {m : Mom} {l : List Nat} (ha : H a = some (.ins aMn dx fs)) (h : MomF K H fs m) (ht : SqT K H t9 (natV l)) : MomAt K aMn (upd H a (.ins aMn dx (putF "held_rests" (.ref t9) fs))) a { m with rests := l } := by
  obtain ⟨z, ⟨t, h1, h2⟩, f2, ⟨u, h3, h4⟩, f4, f5, f6⟩ := h
  refine ⟨dx, _, upd_same, ⟨by rw [putF_eq (lk_some h1)]; exact z, ⟨t9, lk_eq, sqT_ins ha ht⟩, by rw [lk_ne (by decide +kernel)]; exact f2, ⟨u, by rw [lk_ne (by decide +kernel)]; exact h3, sqT_ins ha h4⟩, by rw [lk_ne (by decide +kernel)]; exact f4, by rw [lk_ne (by decide +kernel)]; exact f5, by rw [lk_ne (by decide +kernel)]; exact f6⟩⟩
end
section
variable {K : PySem.W.Frag}
end
section
variable {K : PySem.W.Frag}
theorem RMade.frm {H : Hp} {d n : Nat} {g : Bool} {v : V} (h : RMade K H rs d (.frm n g) v) : ∃ a dx fs, v = .ref a ∧ H a = some (.ins (rs.getD 1 0) dx fs) ∧ fs.lookup ("slot" : Str) = some (.int (n : Int)) ∧ fs.lookup ("guarded" : Str) = some (.bl g) := by
  have go : ∀ ln rec, RMadeF K H rs ln rec (.frm n g) v → ∃ a dx fs, v = .ref a ∧ H a = some (.ins (rs.getD 1 0) dx fs) ∧ fs.lookup ("slot" : Str) = some (.int (n : Int)) ∧ fs.lookup ("guarded" : Str) = some (.bl g) := fun ln rec h => by
    obtain ⟨a, rfl, dx, fs, hx, _, _, he⟩ := h
    exact ⟨a, dx, fs, rfl, hx, he _ (List.mem_cons_self ..), he _ (List.mem_cons_of_mem _ (List.mem_cons_self ..))⟩
  cases d with
  | zero => exact go _ _ h
  | succ d => exact go _ _ h
end
section
variable {K : PySem.W.Frag}
end
section
variable {K : PySem.W.Frag}
end
section
variable {K : PySem.W.Frag}
def mom0 (l : List Nat) (x : Str) (o : List Nat) : Mom := ⟨l, x, o, none, none, false⟩
end
/-! ### what a passage is -/
def BROKEN : Str := "broken"
structure MadP where
  num : Nat
  shown : Str
structure Pas where
  rests : List Nat
  sent : List (Option Nat)
  had : List (Option MadP)
  showed : List Str
  choices : List (Option Nat × Option Nat)
  tellings : List Str
  fates : List Bool
  last : Int
section
variable {K : PySem.W.Frag}
def MadAt (aMd : Addr) (H : Hp) (v : V) : Option MadP → Prop
  | none => v = .non
  | some p => ∃ a dx fs, v = .ref a ∧ H a = some (.ins aMd dx fs) ∧ fs.lookup ("number" : Str) = some (.int (p.num : Int)) ∧ fs.lookup ("shown_as" : Str) = some (.str p.shown) ∧ fs.lookup ("is_broken" : Str) = none
theorem MadAt.same {H H' : Hp} {v : V} {o : Option MadP} (e : Same H H') (h : MadAt aMd H v o) : MadAt aMd H' v o := by
  cases o with
  | none => exact h
  | some p =>
    obtain ⟨a, dx, fs, h1, h2, h3⟩ := h
    exact ⟨a, dx, fs, h1, e _ _ h2, h3⟩
def ChcAt (K : PySem.W.Frag) (H : Hp) (v : V) (q : Option Nat × Option Nat) : Prop := ∃ a, v = .ref a ∧ SqT K H a [oV q.1, oV q.2]
structure PasF (K : PySem.W.Frag) (aMd : Addr) (H : Hp) (fs : List (Str × V)) (b h : Addr) (mo : Option Nat) (p : Pas) : Prop where
  z : fs.length ≤ 11
  f1 : fs.lookup ("brain" : Str) = some (.ref b)
  f2 : fs.lookup ("house" : Str) = some (.ref h)
  f3 : fs.lookup ("modulus" : Str) = some (oV mo)
  f4 : ∃ t, fs.lookup ("rests" : Str) = some (.ref t) ∧ SqT K H t (natV p.rests)
  f5 : ∃ t, fs.lookup ("sent" : Str) = some (.ref t) ∧ TupD H t (p.sent.map oV)
  f6 : ∃ t vs, fs.lookup ("had" : Str) = some (.ref t) ∧ SqT K H t vs ∧ Paired (MadAt aMd H) vs p.had
  f7 : ∃ t, fs.lookup ("showed" : Str) = some (.ref t) ∧ TupD H t (p.showed.map V.str)
  f8 : ∃ t vs, fs.lookup ("choices" : Str) = some (.ref t) ∧ SqT K H t vs ∧ Paired (ChcAt K H) vs p.choices
  f9 : ∃ t, fs.lookup ("tellings" : Str) = some (.ref t) ∧ SqT K H t (p.tellings.map V.str)
  fa : ∃ t, fs.lookup ("fates" : Str) = some (.ref t) ∧ SqT K H t (p.fates.map V.bl)
  fb : fs.lookup ("last_unheard" : Str) = some (.int p.last)
  no : ∀ f, f ∈ [("letter" : Str), "is_same", "told_of", "made_of", "can_go", "behind"] → fs.lookup f = none
theorem PasF.same {H H' : Hp} {fs : List (Str × V)} {b h : Addr} {mo : Option Nat} {p : Pas} (e : Same H H') (q : PasF K aMd H fs b h mo p) : PasF K aMd H' fs b h mo p := by
  obtain ⟨z, f1, f2, f3, ⟨t4, f4, g4⟩, ⟨t5, f5, g5⟩, ⟨t6, v6, f6, g6, r6⟩, ⟨t7, f7, g7⟩, ⟨t8, v8, f8, g8, r8⟩, ⟨t9, f9, g9⟩, ⟨ta, fa, ga⟩, fb, no⟩ := q
  exact ⟨z, f1, f2, f3, ⟨t4, f4, sameT e g4⟩, ⟨t5, f5, g5.same e⟩, ⟨t6, v6, f6, sameT e g6, PairedI (fun _ _ z => MadAt.same e z) r6⟩, ⟨t7, f7, g7.same e⟩, ⟨t8, v8, f8, sameT e g8, PairedI (fun _ _ ⟨a, z1, z2⟩ => ⟨a, z1, sameT e z2⟩) r8⟩, ⟨t9, f9, sameT e g9⟩, ⟨ta, fa, sameT e ga⟩, fb, no⟩
def PasAt (K : PySem.W.Frag) (aPa aMd : Addr) (H : Hp) (x b h : Addr) (mo : Option Nat) (p : Pas) : Prop := ∃ dx fs, H x = some (.ins aPa dx fs) ∧ PasF K aMd H fs b h mo p
theorem PasAt.same {H H' : Hp} {x b h : Addr} {mo : Option Nat} {p : Pas} (e : Same H H') (q : PasAt K aPa aMd H x b h mo p) : PasAt K aPa aMd H' x b h mo p := by
  obtain ⟨dx, fs, h1, h2⟩ := q
  exact ⟨dx, fs, e _ _ h1, h2.same e⟩
/-! ### small defs -/
def sameP (mo : Option Nat) (i j : Nat) : Bool := match mo with | none => decide (i = j) | some m => decide (((i : Int) - j) % m = 0)
end
/-! ### what a passage comes to -/
def letterP (p : Pas) (u : Nat) : Option Nat → Nat
  | none => 98
  | some n => if p.showed.length ≤ n + u then 117 else if p.showed.getD n "" = "lost" ∨ p.showed.getD n "" = "broken" then 109 else 115
def toldP (p : Pas) (u : Nat) : Str := ⟨(p.sent.map (letterP p u)).toArray⟩
def numsP (sent : List (Option Nat)) : List Nat := (sent.filterMap id).mergeSort fun a b => decide (a ≤ b)
def orderedP (sent : List (Option Nat)) : List Nat := (numsP sent).reverse.map fun n => sent.idxOf (some n)
def madeQ (mo : Option Nat) (n : Nat) : Option MadP → Str
  | none => "broken"
  | some far => if far.shown = "broken" ∨ sameP mo far.num n = false then "broken" else if far.num = n ∧ far.shown = "sound" then "sound" else "false"
def madeP (p : Pas) (mo : Option Nat) : Option Nat → Str
  | none => "sound"
  | some g => match p.sent.getD g none with | some n => madeQ mo n (p.had.getD g none) | none => "broken"
def setO {α : Type} (l : List α) (k : Option Nat) (x : α) : List α := match k with | none => l | some i => l.set i x
def lostP (h : Hou) (f : List Bool) : Bool := match h.losses with | none => true | some n => decide (f.count false < n)
def fatesP (h : Hou) (f : List Bool) (c : Bool) : List Bool := if h.losses = none ∨ h.window = 1 then [] else (f ++ [c]).drop ((f ++ [c]).length - (h.window - 1))
def canP (h : Hou) (p : Pas) (c : Bool) (u : Nat) : Bool := decide ((u : Int) ≤ p.last + 1 ∧ u ≤ h.late) && (c || lostP h p.fates)
def momB (N : List (Str × Nat)) (rl : List RD) (p : Pas) (u : Nat) : Mom := doL N rl (mom0 p.rests (toldP p u) (orderedP p.sent))
def behindP (N : List (Str × Nat)) (rl : List RD) (h : Hou) (mo : Option Nat) (p : Pas) (c : Bool) (u : Nat) : Pas :=
  let m := momB N rl p u
  let shown := if c = true then madeP p mo m.chosen else "lost"
  { rests := m.rests, sent := setO p.sent m.kept (some p.showed.length), had := if c = true then setO p.had m.kept (some ⟨p.showed.length, shown⟩) else p.had,
    showed := p.showed ++ [shown], choices := p.choices ++ [(m.chosen, m.kept)], tellings := p.tellings ++ [toldP p u], fates := fatesP h p.fates c, last := u }
def shownW : List Str := ["lost", "broken", "sound", "false"]
structure PasP (N : List (Str × Nat)) (h : Hou) (p : Pas) : Prop where
  rl : p.rests.length = N.length
  rm : ∀ i, i < N.length → p.rests.getD i 0 < 5
  sl : p.sent.length = h.slots
  sn : ∀ n, some n ∈ p.sent → n < p.showed.length
  hl : p.had.length = h.slots
  ws : ∀ w ∈ p.showed, w ∈ shownW
  tw : ∀ w ∈ p.tellings, w.cps.toList.length ≤ 3 ∧ ∀ c ∈ w.cps.toList, c < 128
  cw : ∀ q ∈ p.choices, (∀ n, q.1 = some n → n < 3) ∧ ∀ n, q.2 = some n → n < 3
  l1 : -1 ≤ p.last
  l3 : p.last ≤ 3
  fz : p.fates.length ≤ 4
  cz : p.choices.length = p.showed.length
  tz : p.tellings.length = p.showed.length
theorem signs_told (p : Pas) (u : Nat) : (toldP p u).cps.toList = p.sent.map (letterP p u) := rfl
theorem letter_some (p : Pas) (u n : Nat) : letterP p u (some n) = if p.showed.length ≤ n + u then 117 else if p.showed.getD n "" = "lost" ∨ p.showed.getD n "" = "broken" then 109 else 115 := rfl
theorem letterP_in (p : Pas) (u : Nat) (o : Option Nat) : letterP p u o = 98 ∨ letterP p u o = 117 ∨ letterP p u o = 115 ∨ letterP p u o = 109 := by
  cases o with
  | none => exact .inl rfl
  | some n =>
    rw [letter_some]
    split
    · exact .inr (.inl rfl)
    · split
      · exact .inr (.inr (.inr rfl))
      · exact .inr (.inr (.inl rfl))
theorem nums_mem {sent : List (Option Nat)} {n : Nat} : n ∈ numsP sent ↔ some n ∈ sent := by
  unfold numsP
  rw [(List.mergeSort_perm _ _).mem_iff, List.mem_filterMap]
  constructor
  · rintro ⟨a, h1, h2⟩
    have h2 : a = some n := h2
    exact h2 ▸ h1
  · exact fun h => ⟨some n, h, rfl⟩
theorem nums_len (sent : List (Option Nat)) : (numsP sent).length ≤ sent.length := by
  unfold numsP
  rw [List.length_mergeSort]
  exact List.length_filterMap_le _ _
theorem ordered_lt {sent : List (Option Nat)} {n : Nat} (h : n ∈ orderedP sent) : n < sent.length := by
  unfold orderedP at h
  obtain ⟨k, hk, rfl⟩ := List.mem_map.mp h
  exact List.idxOf_lt_length_of_mem (nums_mem.mp (List.mem_reverse.mp hk))
theorem mom_ok {N : List (Str × Nat)} {h : Hou} {p : Pas} (hp : PasP N h p) (h1 : 1 ≤ h.slots) (u : Nat) : MomP N h.slots (mom0 p.rests (toldP p u) (orderedP p.sent)) where
  rl := hp.rl
  rm := hp.rm
  sl := by
    show (toldP p u).cps.toList.length = _
    rw [signs_told, List.length_map, hp.sl]
  sa := fun c hc => by
    have hc : c ∈ p.sent.map (letterP p u) := hc
    obtain ⟨o, _, rfl⟩ := List.mem_map.mp hc
    exact letterP_in p u o
  ol := fun n hn => by rw [← hp.sl]; exact ordered_lt hn
  on := by
    show (orderedP p.sent).length ≤ _
    unfold orderedP
    rw [List.length_map, List.length_reverse, ← hp.sl]
    exact nums_len _
  oe := fun hb e => by
    have hb : 98 ∉ p.sent.map (letterP p u) := hb
    have e : orderedP p.sent = [] := e
    have h0 : 0 < p.sent.length := by rw [hp.sl]; omega
    cases e0 : p.sent[0] with
    | none => exact hb (List.mem_map.mpr ⟨none, e0 ▸ List.getElem_mem h0, rfl⟩)
    | some n =>
      have hm : n ∈ numsP p.sent := nums_mem.mpr (e0 ▸ List.getElem_mem h0)
      unfold orderedP at e
      rw [List.map_eq_nil_iff, List.reverse_eq_nil_iff] at e
      rw [e] at hm
      exact nomatch hm
  cl := fun n e => nomatch e
  kl := fun n e => nomatch e
theorem momB_ok {N : List (Str × Nat)} {rl : List RD} {h : Hou} {p : Pas} (hp : PasP N h p) (h1 : 1 ≤ h.slots) (hN : modsOk N) (hok : okLs (N.map (·.1)) h.slots rl) (u : Nat) : MomP N h.slots (momB N rl p u) := MomP.doL hN (mom_ok hp h1 u) hok
section
variable {K : PySem.W.Frag}
end
section
variable {K : PySem.W.Frag}
end
section
variable {K : PySem.W.Frag}
end
section
variable {K : PySem.W.Frag}
/-! ### roads -/
/-! ### what is possible -/
end
section
variable {K : PySem.W.Frag}
/-! ### a passage begun -/
def pas0 (N : List (Str × Nat)) (h : Hou) : Pas := { rests := List.replicate N.length 0, sent := List.replicate h.slots none, had := List.replicate h.slots none, showed := [], choices := [], tellings := [], fates := [], last := -1 }
local macro_rules | `(tactic| tm_at "lk") => `(tactic| ((repeat (first | rw [lk_eq] | rw [lk_ne (by decide +kernel)])); try rfl))
end
section
variable {K : PySem.W.Frag}
local macro_rules | `(tactic| tm_at "lk") => `(tactic| ((repeat (first | rw [lk_eq] | rw [lk_ne (by decide +kernel)])); try rfl))
/-! ### one more turn -/
theorem MadAt.ins {H : Hp} {a mk C dx : Addr} {gs : List (Str × V)} {o : Option MadP} (n : mk ≠ a) (h : MadAt aMd H (.ref mk) o) : MadAt aMd (upd H a (.ins C dx gs)) (.ref mk) o := by
  cases o with
  | none => exact h
  | some p =>
    obtain ⟨b, dx, fs, e, h2, h3⟩ := h
    cases e
    exact ⟨mk, dx, fs, rfl, at_upd n h2, h3⟩
theorem Paired.setO {α : Type} {R : V → α → Prop} : ∀ {vs : List V} {l : List α} {m : Option Nat} {v : V} {x : α}, Paired R vs l → R v x → Paired R (Hg.setO vs m v) (Hg.setO l m x)
  | _, _, none, _, _, h, _ => h
  | _, _, some _, _, _, .nil, _ => .nil
  | _, _, some 0, _, _, .cons _ b, r => .cons r b
  | _, _, some (i + 1), _, _, .cons a b, r => .cons a (Paired.setO (m := some i) b r)
def rowsOk (N : List (Str × Nat)) (L : Nat) (rl : List RD) : Prop := okLs (N.map (·.1)) L rl ∧ (∀ r ∈ rl, dpR 3 r) ∧ modsOk N ∧ N.length ≤ 100
end
/-! ### runs -/
theorem madeQ_in (mo : Option Nat) (n : Nat) (o : Option MadP) : madeQ mo n o ∈ shownW := by
  cases o with
  | none => exact .tail _ (.head _)
  | some far =>
    show (if far.shown = "broken" ∨ sameP mo far.num n = false then _ else if far.num = n ∧ far.shown = "sound" then _ else _) ∈ shownW
    split
    · exact .tail _ (.head _)
    · split
      · exact .tail _ (.tail _ (.head _))
      · exact .tail _ (.tail _ (.tail _ (.head _)))
theorem madeP_in (p : Pas) (mo : Option Nat) (o : Option Nat) : madeP p mo o ∈ shownW := by
  cases o with
  | none => exact .tail _ (.tail _ (.head _))
  | some g =>
    show (match p.sent.getD g none with | some n => madeQ mo n (p.had.getD g none) | none => "broken") ∈ shownW
    split
    · exact madeQ_in _ _ _
    · exact .tail _ (.head _)
theorem setO_len {α : Type} (l : List α) (k : Option Nat) (x : α) : (setO l k x).length = l.length := by
  cases k with
  | none => rfl
  | some i => exact List.length_set
theorem setO_mem {α : Type} {l : List α} {k : Option Nat} {x y : α} (h : y ∈ setO l k x) : y ∈ l ∨ y = x := by
  cases k with
  | none => exact .inl h
  | some i => exact List.mem_or_eq_of_mem_set h
theorem fates_len (h : Hou) (ho : HouOk h) (f : List Bool) (c : Bool) : (fatesP h f c).length ≤ 4 := by
  unfold fatesP
  split
  · exact Nat.zero_le _
  · have := ho.w4
    rw [List.length_drop]
    omega
theorem PasP.behind {N : List (Str × Nat)} {rl : List RD} {h : Hou} {mo : Option Nat} {p : Pas} {c : Bool} {u : Nat} (hp : PasP N h p) (ho : HouOk h) (hN : modsOk N) (hok : okLs (N.map (·.1)) h.slots rl) (hu : u ≤ 3) : PasP N h (behindP N rl h mo p c u) := by
  have hm := momB_ok hp ho.s1 hN hok u
  have hs3 := ho.s3
  refine { rl := hm.rl, rm := hm.rm, sl := (setO_len _ _ _).trans hp.sl, sn := fun n hn => ?_, hl := ?_, ws := fun w hw => ?_, tw := fun w hw => ?_, cw := fun q hq => ?_, l1 := ?_, l3 := ?_, fz := fates_len h ho _ _, cz := ?_, tz := ?_ }
  · show n < (p.showed ++ [_]).length
    rw [List.length_append]
    rcases setO_mem hn with hn | hn
    · exact Nat.lt_succ_of_lt (hp.sn n hn)
    · cases hn
      exact Nat.lt_succ_self _
  · show (if c = true then setO p.had _ _ else p.had).length = h.slots
    split
    · exact (setO_len _ _ _).trans hp.hl
    · exact hp.hl
  · have hw : w ∈ p.showed ++ [if c = true then madeP p mo (momB N rl p u).chosen else "lost"] := hw
    rcases List.mem_append.mp hw with hw | hw
    · exact hp.ws w hw
    · rw [List.mem_singleton.mp hw]
      split
      · exact madeP_in _ _ _
      · exact .head _
  · have hw : w ∈ p.tellings ++ [toldP p u] := hw
    rcases List.mem_append.mp hw with hw | hw
    · exact hp.tw w hw
    · rw [List.mem_singleton.mp hw, signs_told]
      refine ⟨by rw [List.length_map, hp.sl]; exact hs3, fun c hc => ?_⟩
      obtain ⟨o, _, rfl⟩ := List.mem_map.mp hc
      rcases letterP_in p u o with e | e | e | e <;> (rw [e]; decide)
  · have hq : q ∈ p.choices ++ [((momB N rl p u).chosen, (momB N rl p u).kept)] := hq
    rcases List.mem_append.mp hq with hq | hq
    · exact hp.cw q hq
    · rw [List.mem_singleton.mp hq]
      exact ⟨fun n e => Nat.lt_of_lt_of_le (hm.cl n e).1 hs3, fun n e => Nat.lt_of_lt_of_le (hm.kl n e) hs3⟩
  · show (-1 : Int) ≤ (u : Int)
    omega
  · show (u : Int) ≤ 3
    omega
  · show (p.choices ++ [_]).length = (p.showed ++ [_]).length
    rw [List.length_append, List.length_append, hp.cz]
    rfl
  · show (p.tellings ++ [_]).length = (p.showed ++ [_]).length
    rw [List.length_append, List.length_append, hp.tz]
    rfl
def goTs (N : List (Str × Nat)) (rl : List RD) (h : Hou) (mo : Option Nat) : Pas → List (Bool × Nat) → Pas
  | p, [] => p
  | p, t :: ts => goTs N rl h mo (behindP N rl h mo p t.1 t.2) ts
/-- whether all turns are possible -/
def canTs (N : List (Str × Nat)) (rl : List RD) (h : Hou) (mo : Option Nat) : Pas → List (Bool × Nat) → Bool
  | _, [] => true
  | p, t :: ts => canP h p t.1 t.2 && canTs N rl h mo (behindP N rl h mo p t.1 t.2) ts
theorem goTs_snoc {N : List (Str × Nat)} {rl : List RD} {h : Hou} {mo : Option Nat} : ∀ {ts : List (Bool × Nat)} {p : Pas} {t : Bool × Nat}, goTs N rl h mo p (ts ++ [t]) = behindP N rl h mo (goTs N rl h mo p ts) t.1 t.2
  | [], _, _ => rfl
  | _ :: ts, _, _ => goTs_snoc (ts := ts)
theorem canTs_snoc {N : List (Str × Nat)} {rl : List RD} {h : Hou} {mo : Option Nat} : ∀ {ts : List (Bool × Nat)} {p : Pas} {t : Bool × Nat}, canTs N rl h mo p (ts ++ [t]) = (canTs N rl h mo p ts && canP h (goTs N rl h mo p ts) t.1 t.2)
  | [], _, _ => by
    show (_ && true) = (true && _)
    rw [Bool.and_true, Bool.true_and]
    rfl
  | t0 :: ts, p, t => by
    show (canP h p t0.1 t0.2 && canTs N rl h mo (behindP N rl h mo p t0.1 t0.2) (ts ++ [t])) = ((canP h p t0.1 t0.2 && canTs N rl h mo (behindP N rl h mo p t0.1 t0.2) ts) && _)
    rw [canTs_snoc (ts := ts), Bool.and_assoc]
    rfl
section
variable {K : PySem.W.Frag}
structure HisF (K : PySem.W.Frag) (H : Hp) (fs : List (Str × V)) (sh : List Str) (ch : List (Option Nat × Option Nat)) (tl : List Str) : Prop where
  f1 : ∃ t, fs.lookup ("shown" : Str) = some (.ref t) ∧ TupD H t (sh.map V.str)
  f2 : ∃ t vs, fs.lookup ("choices" : Str) = some (.ref t) ∧ SqT K H t vs ∧ Paired (ChcAt K H) vs ch
  f3 : ∃ t, fs.lookup ("told" : Str) = some (.ref t) ∧ SqT K H t (tl.map V.str)
def HisAt (K : PySem.W.Frag) (aHi : Addr) (H : Hp) (x : Addr) (p : Pas) : Prop := ∃ dx fs, H x = some (.ins aHi dx fs) ∧ HisF K H fs p.showed p.choices p.tellings
theorem HisAt.same {H H' : Hp} {x : Addr} {p : Pas} (e : Same H H') (q : HisAt K aHi H x p) : HisAt K aHi H' x p := by
  obtain ⟨dx, fs, h1, ⟨t7, f7, g7⟩, ⟨t8, v8, f8, g8, r8⟩, ⟨t9, f9, g9⟩⟩ := q
  exact ⟨dx, fs, e _ _ h1, ⟨t7, f7, g7.same e⟩, ⟨t8, v8, f8, sameT e g8, PairedI (fun _ _ ⟨a, z1, z2⟩ => ⟨a, z1, sameT e z2⟩) r8⟩, ⟨t9, f9, sameT e g9⟩⟩
def needP (rl : List RD) : Nat := mostL 1 (((rl.map (flatD 3)).flatten).map toldR).flatten
def TurnV (K : PySem.W.Frag) (H : Hp) (v : V) (t : Bool × Nat) : Prop := ∃ a, v = .ref a ∧ SqT K H a [.bl t.1, .int (t.2 : Int)]
theorem TurnV.same {H H' : Hp} {v : V} {t : Bool × Nat} (e : Same H H') (h : TurnV K H v t) : TurnV K H' v t := by
  obtain ⟨a, h1, h2⟩ := h
  exact ⟨a, h1, sameT e h2⟩
end
/-! ### the lines tell the rows, and so do the data -/
/-! the data tell the test, the row -/
/-! ### histories compared -/
def oD : Option Nat → PyData
  | none => .none
  | some n => .int (n : Int)
def chD (q : Option Nat × Option Nat) : PyData := .tuple [oD q.1, oD q.2]
def hisD (p : Pas) : PyData := .tuple [.tuple (p.showed.map .str), .tuple (p.choices.map chD), .tuple (p.tellings.map .str)]
/-- letters and words of a history -/
structure HisW (p : Pas) : Prop where
  ws : ∀ w ∈ p.showed, w ∈ shownW
  tw : ∀ w ∈ p.tellings, w.cps.toList.length ≤ 3 ∧ ∀ c ∈ w.cps.toList, c < 128
  cw : ∀ q ∈ p.choices, (∀ n, q.1 = some n → n < 3) ∧ ∀ n, q.2 = some n → n < 3
theorem PasP.hw {N : List (Str × Nat)} {h : Hou} {p : Pas} (hp : PasP N h p) : HisW p := ⟨hp.ws, hp.tw, hp.cw⟩
section
variable {K : PySem.W.Frag}
theorem dp_words {H : Hp} : ∀ l : List Str, DpAll K H (l.map V.str) (l.map .str)
  | [] => .nil
  | w :: l => .cons (.str _) (dp_words l)
theorem dp_oD {H : Hp} (o : Option Nat) : Dp K H (oV o) (oD o) := by
  cases o with
  | none => exact .non
  | some n => exact .int _
theorem dp_chs {H : Hp} : ∀ {vs : List V} {l : List (Option Nat × Option Nat)}, Paired (ChcAt K H) vs l → DpAll K H vs (l.map chD)
  | _, _, .nil => .nil
  | _, _, .cons ⟨a, h1, h2⟩ b => by
    subst h1
    exact .cons (.tup h2 (.cons (dp_oD _) (.cons (dp_oD _) .nil))) (dp_chs b)
end
section
variable {X : Cx} {k : Nat} {C : Addr} {ps : List Str} {sp : Sp}
end
section
variable {X : Cx} {rs : List Addr} {aPart : Addr}
end
section
variable {K : PySem.W.Frag}
end
section
variable {K : PySem.W.Frag}
end
/-! ### slots below the house's; possible turns -/
def namesN (N : List (Str × Nat)) : List Str := N.map (·.1)
theorem okT_of {H : Hp} {N : List Str} {L : Nat} {v : V} {t : TD} (h : TDat H v t) : (∀ s ∈ usedT t, N.contains s = true) → (∀ n ∈ slotsT t, n < L) → okT N L t := by
  induction h with
  | slot h hw hn => exact fun _ s => ⟨s _ (List.mem_singleton.mpr rfl), hw⟩
  | anys h => exact fun _ _ => trivial
  | holds h hn h6 => exact fun u _ => u _ (List.mem_singleton.mpr rfl)
  | neg h r ih => exact fun u s => ih u s
theorem okF_of {H : Hp} {N : List Str} {L : Nat} {rec : V → RD → Prop} {us : RD → List Str} {sl : RD → List Nat} {v : V} {r : RD} (hr : ∀ v r, rec v r → (∀ s ∈ us r, N.contains s = true) → (∀ n ∈ sl r, n < L) → okR N L r) (h : RAtF H rec v r) (u : ∀ s ∈ usedF us r, N.contains s = true) (s : ∀ n ∈ slotsF sl r, n < L) : okR N L r := by
  have all : ∀ {xs : List V} {l : List RD}, Paired rec xs l → (∀ s ∈ (l.map us).flatten, N.contains s = true) → (∀ n ∈ (l.map sl).flatten, n < L) → okLs N L l := fun {xs l} p q q2 => okLs_of fun r hm => by
    obtain ⟨v, hv⟩ := paired_memL p hm
    exact hr v r hv (fun s hs => q s (List.mem_flatten.mpr ⟨_, List.mem_map.mpr ⟨r, hm, rfl⟩, hs⟩)) (fun s hs => q2 s (List.mem_flatten.mpr ⟨_, List.mem_map.mpr ⟨r, hm, rfl⟩, hs⟩))
  cases r with
  | one w => obtain ⟨_, _, _, hw⟩ := h; rw [okR]; exact hw
  | keep n => rw [okR]; exact s n (List.mem_singleton.mpr rfl)
  | frm n g => rw [okR]; exact s n (List.mem_singleton.mpr rfl)
  | chg add nm n => rw [okR]; exact u nm (List.mem_singleton.mpr rfl)
  | iff t rs os =>
    obtain ⟨a, tv, ra, oa, xs, ys, _, _, ht, _, _, _, p1, p2⟩ := h
    rw [okR]
    exact ⟨okT_of ht (fun x hs => u x (List.mem_append_left _ hs)) (fun x hs => s x (List.mem_append_left _ hs)), all p1 (fun x hs => u x (List.mem_append_right _ (List.mem_append_left _ hs))) (fun x hs => s x (List.mem_append_right _ (List.mem_append_left _ hs))), all p2 (fun x hs => u x (List.mem_append_right _ (List.mem_append_right _ hs))) (fun x hs => s x (List.mem_append_right _ (List.mem_append_right _ hs)))⟩
theorem okR_of {H : Hp} {N : List Str} {L : Nat} : ∀ (d : Nat) {v : V} {r : RD}, RAt H d v r → (∀ s ∈ usedD d r, N.contains s = true) → (∀ n ∈ slotsD d r, n < L) → okR N L r
  | 0, _, _, h, u, s => okF_of (fun _ _ z => z.elim) h.2 u s
  | d + 1, _, _, h, u, s => okF_of (us := usedD d) (sl := slotsD d) (fun _ _ z q q2 => okR_of d z q q2) h u s
theorem dpR_of {H : Hp} : ∀ (d : Nat) {v : V} {r : RD}, RAt H d v r → dpR d r
  | 0, _, r, h => by
    cases r with
    | iff t rs os => exact nomatch h.1
    | one w => trivial
    | keep n => trivial
    | frm n g => trivial
    | chg a b c => trivial
  | d + 1, _, r, h => by
    have all : ∀ {xs : List V} {l : List RD}, Paired (RAt H d) xs l → ∀ r ∈ l, dpR d r := fun {xs l} p r hm => by
      obtain ⟨v, hv⟩ := paired_memL p hm
      exact dpR_of d hv
    cases r with
    | iff t rs os =>
      obtain ⟨a, tv, ra, oa, xs, ys, _, _, ht, hd, _, _, p1, p2⟩ := h
      exact ⟨hd, all p1, all p2⟩
    | one w => trivial
    | keep n => trivial
    | frm n g => trivial
    | chg a b c => trivial
theorem told_slT : ∀ t : TD, toldT t = slotsT t
  | .slot _ _ => rfl
  | .anys => rfl
  | .holds _ _ => rfl
  | .neg t => told_slT t
theorem tsl_F {fl : RD → List RD} {sl : RD → List Nat} (hr : ∀ r, ∀ q ∈ fl r, ∀ n ∈ toldR q, n ∈ sl r) (r : RD) : ∀ q ∈ flatF fl r, ∀ n ∈ toldR q, n ∈ slotsF sl r := by
  have all : ∀ l : List RD, ∀ q ∈ (l.map fl).flatten, ∀ n ∈ toldR q, n ∈ (l.map sl).flatten := fun l q hq n hn => by
    obtain ⟨l2, h2, hq⟩ := List.mem_flatten.mp hq
    obtain ⟨r, hm, rfl⟩ := List.mem_map.mp h2
    exact List.mem_flatten.mpr ⟨_, List.mem_map.mpr ⟨r, hm, rfl⟩, hr r q hq n hn⟩
  cases r with
  | iff t rs os =>
    intro q hq n hn
    rcases List.mem_cons.mp hq with rfl | hq
    · have hn : n ∈ toldT t := hn
      rw [told_slT] at hn
      exact List.mem_append_left _ hn
    · exact List.mem_append_right _ ((List.mem_append.mp hq).elim (fun z => List.mem_append_left _ (all rs q z n hn)) fun z => List.mem_append_right _ (all os q z n hn))
  | one w => exact fun q hq n hn => by rw [List.mem_singleton.mp hq] at hn; exact hn
  | keep k => exact fun q hq n hn => by rw [List.mem_singleton.mp hq] at hn; exact hn
  | frm k g => exact fun q hq n hn => by rw [List.mem_singleton.mp hq] at hn; exact hn
  | chg a b c => exact fun q hq n hn => by rw [List.mem_singleton.mp hq] at hn; exact hn
theorem tsl_D : ∀ (d : Nat) (r : RD), ∀ q ∈ flatD d r, ∀ n ∈ toldR q, n ∈ slotsD d r
  | 0, r => tsl_F (fun _ q hq => absurd (show q ∈ ([] : List RD) from hq) List.not_mem_nil) r
  | d + 1, r => tsl_F (tsl_D d) r
theorem most_leL {L : Nat} : ∀ {l : List Nat} {f : Nat}, (∀ n ∈ l, n < L) → f ≤ L → mostL f l ≤ L
  | [], _, _, h => h
  | s :: l, f, h, hf => by
    rw [mostL]
    have := h s (List.mem_cons_self ..)
    exact most_leL (fun n hn => h n (List.mem_cons_of_mem _ hn)) (by split <;> omega)
/-- drawn rows: their notes, their slots, how many there are -/
structure DrR (N : List (Str × Nat)) (L m : Nat) (rl : List RD) : Prop where
  u : ∀ r ∈ rl, ∀ nm ∈ usedD 3 r, (namesN N).contains nm = true
  s : ∀ r ∈ rl, ∀ n ∈ slotsD 3 r, n < L
  z : (rl.map (sizeD 3)).sum ≤ m
theorem DrR.us {N : List (Str × Nat)} {L m : Nat} {rl : List RD} (h : DrR N L m rl) : ∀ nm ∈ (rl.map (usedD 3)).flatten, (N.map (·.1)).contains nm = true := fun nm hn => by
  obtain ⟨l, hl, hn⟩ := List.mem_flatten.mp hn
  obtain ⟨r, hr, rfl⟩ := List.mem_map.mp hl
  exact h.u r hr nm hn
theorem DrR.rows {H : Hp} {xs : List V} {N : List (Str × Nat)} {L m : Nat} {rl : List RD} (h : DrR N L m rl) (p : Paired (RAt H 3) xs rl) (hN : modsOk N) (zN : N.length ≤ 100) : rowsOk N L rl := by
  refine ⟨okLs_of fun r hr => ?_, fun r hr => ?_, hN, zN⟩
  · obtain ⟨v, hv⟩ := paired_memL p hr
    exact okR_of 3 hv (h.u r hr) (h.s r hr)
  · obtain ⟨v, hv⟩ := paired_memL p hr
    exact dpR_of 3 hv
theorem DrR.need {N : List (Str × Nat)} {L m : Nat} {rl : List RD} (h : DrR N L m rl) (hL : 1 ≤ L) : needP rl ≤ L := by
  refine most_leL (fun n hn => ?_) hL
  obtain ⟨l, hl, hn⟩ := List.mem_flatten.mp hn
  obtain ⟨q, hq, rfl⟩ := List.mem_map.mp hl
  obtain ⟨l2, hl2, hq⟩ := List.mem_flatten.mp hq
  obtain ⟨r, hr, rfl⟩ := List.mem_map.mp hl2
  exact h.s r hr n (tsl_D 3 r q hq n hn)
/-! possible turns -/
def lastU (ts : List (Bool × Nat)) : Int := match ts.getLast? with | none => -1 | some t => (t.2 : Int)
def lastW (h : Hou) (ts : List (Bool × Nat)) : List (Bool × Nat) := ts.drop (ts.length - (h.window - 1))
def lostD (h : Hou) (ts : List (Bool × Nat)) : Bool := match h.losses with | none => true | some n => decide (((lastW h ts).filter fun t => !t.1).length < n)
def okTn (h : Hou) (ts : List (Bool × Nat)) : Prop := ∀ i t, ts[i]? = some t → t.2 ≤ h.late ∧ (t.2 : Int) ≤ lastU (ts.take i) + 1 ∧ (t.1 = true ∨ lostD h (ts.take i) = true)
theorem okTn.nil (h : Hou) : okTn h [] := fun i t e => by cases e
theorem okTn.snoc {h : Hou} {ts : List (Bool × Nat)} {t : Bool × Nat} (o : okTn h ts) (h1 : t.2 ≤ h.late) (h2 : (t.2 : Int) ≤ lastU ts + 1) (h3 : t.1 = true ∨ lostD h ts = true) : okTn h (ts ++ [t]) := fun i u e => by
  by_cases c : i < ts.length
  · rw [List.getElem?_append_left c] at e
    rw [List.take_append_of_le_length (Nat.le_of_lt c)]
    exact o i u e
  · have : i = ts.length := by
      have := (List.getElem?_eq_some_iff.mp e).1
      rw [List.length_append] at this
      have : i < ts.length + 1 := this
      omega
    subst this
    rw [List.getElem?_append_right (Nat.le_refl _), Nat.sub_self] at e
    cases e
    rw [List.take_left]
    exact ⟨h1, h2, h3⟩
theorem okTn.take {h : Hou} {ts : List (Bool × Nat)} (o : okTn h ts) (n : Nat) : okTn h (ts.take n) := fun i t e => by
  rw [List.getElem?_take] at e
  by_cases c : i < n
  · rw [if_pos c] at e
    rw [List.take_take, Nat.min_eq_left (Nat.le_of_lt c)]
    exact o i t e
  · rw [if_neg c] at e
    cases e
theorem lastU_snoc (ts : List (Bool × Nat)) (t : Bool × Nat) : lastU (ts ++ [t]) = (t.2 : Int) := by
  unfold lastU
  rw [List.getLast?_append]
  rfl
theorem count_filter : ∀ l : List (Bool × Nat), (l.map (·.1)).count false = (l.filter fun t => !t.1).length
  | [] => rfl
  | (true, n) :: l => by
    have := count_filter l
    rw [List.map_cons, List.filter_cons, List.count_cons]
    exact this
  | (false, n) :: l => by
    have := count_filter l
    rw [List.map_cons, List.filter_cons, List.count_cons]
    show _ + 1 = (_ :: _).length
    rw [this]
    rfl
theorem go_last {N : List (Str × Nat)} {rl : List RD} {h : Hou} {mo : Option Nat} (ho : HouOk h) : ∀ (ts : List (Bool × Nat)), (goTs N rl h mo (pas0 N h) ts).last = lastU ts ∧ (goTs N rl h mo (pas0 N h) ts).fates = if h.losses = none ∨ h.window = 1 then [] else (lastW h ts).map (·.1) := by
  intro ts
  have key : ∀ n, ∀ ts : List (Bool × Nat), ts.length = n → (goTs N rl h mo (pas0 N h) ts).last = lastU ts ∧ (goTs N rl h mo (pas0 N h) ts).fates = if h.losses = none ∨ h.window = 1 then [] else (lastW h ts).map (·.1) := by
    intro n
    induction n with
    | zero =>
      intro ts e
      obtain rfl := List.length_eq_zero_iff.mp e
      refine ⟨rfl, ?_⟩
      split
      · rfl
      · show ([] : List Bool) = _
        unfold lastW
        rw [List.drop_nil]
        rfl
    | succ n ih =>
      intro ts e
      obtain ⟨us, t, rfl⟩ : ∃ us t, ts = us ++ [t] := by
        have hne : ts ≠ [] := fun z => by rw [z] at e; cases e
        exact ⟨ts.dropLast, ts.getLast hne, (List.dropLast_concat_getLast hne).symm⟩
      have e : us.length = n := by rw [List.length_append] at e; exact Nat.succ.inj e
      obtain ⟨i1, i2⟩ := ih us e
      rw [goTs_snoc, lastU_snoc]
      refine ⟨rfl, ?_⟩
      show fatesP h (goTs N rl h mo (pas0 N h) us).fates t.1 = _
      unfold fatesP
      by_cases c : h.losses = none ∨ h.window = 1
      · rw [if_pos c, if_pos c]
      · rw [if_neg c, if_neg c, i2, if_neg c]
        unfold lastW
        have w1 := ho.w1
        have lu : us.length - (h.window - 1) ≤ us.length := Nat.sub_le ..
        have e2 : List.map (·.1) (us.drop (us.length - (h.window - 1))) ++ [t.1] = ((us ++ [t]).drop (us.length - (h.window - 1))).map (·.1) := by
          rw [List.drop_append_of_le_length lu, List.map_append]
          rfl
        rw [e2, ← List.map_drop, List.drop_drop]
        congr 2
        rw [List.length_map, List.length_drop, List.length_append]
        show _ + ((us.length + 1 - _) - _) = us.length + 1 - _
        omega
  exact key _ ts rfl
theorem lost_eq {h : Hou} (ho : HouOk h) (ts : List (Bool × Nat)) {f : List Bool} (hf : f = if h.losses = none ∨ h.window = 1 then [] else (lastW h ts).map (·.1)) : lostP h f = lostD h ts := by
  unfold lostP lostD
  cases e : h.losses with
  | none => rfl
  | some n =>
    show decide _ = decide _
    congr 1
    subst hf
    by_cases c : h.window = 1
    · rw [if_pos (.inr c)]
      have : lastW h ts = [] := by
        unfold lastW
        rw [c]
        exact List.drop_length
      rw [this]
      rfl
    · rw [if_neg (fun z => z.elim (fun z => by rw [e] at z; cases z) c), count_filter]
theorem okTn.can {h : Hou} (ho : HouOk h) {ts : List (Bool × Nat)} (o : okTn h ts) (N : List (Str × Nat)) (rl : List RD) (mo : Option Nat) : canTs N rl h mo (pas0 N h) ts = true := by
  have key : ∀ n, n ≤ ts.length → canTs N rl h mo (pas0 N h) (ts.take n) = true := by
    intro n
    induction n with
    | zero => intro _; rw [List.take_zero]; rfl
    | succ n ih =>
      intro hn
      obtain ⟨t, ht⟩ : ∃ t, ts[n]? = some t := ⟨ts[n], List.getElem?_eq_getElem hn⟩
      rw [take_succ ht, canTs_snoc, ih (Nat.le_of_lt hn)]
      obtain ⟨o1, o2, o3⟩ := o n t ht
      obtain ⟨g1, g2⟩ := go_last (N := N) (rl := rl) (mo := mo) ho (ts.take n)
      show canP _ _ _ _ = true
      unfold canP
      rw [g1, lost_eq ho (ts.take n) g2, decide_eq_true ⟨o2, o1⟩]
      rcases o3 with o3 | o3
      · rw [o3]; rfl
      · rw [o3, Bool.or_true]; rfl
  have := key ts.length (Nat.le_refl _)
  rwa [List.take_length] at this
theorem okTn.late {h : Hou} {ts : List (Bool × Nat)} (o : okTn h ts) : ∀ t ∈ ts, t.2 ≤ h.late := fun t ht => by
  obtain ⟨i, hi⟩ := List.getElem?_of_mem ht
  exact (o i t hi).1
/-! ### a drawn house, as a tuple and as the package's -/
def houV (h : Hou) : List V := [.int (h.slots : Int), .int (h.late : Int), oV h.losses, .int (h.window : Int)]
section
variable {K : PySem.W.Frag}
end
/-! ### drawn turns -/
section
variable {K : PySem.W.Frag}
theorem TurnV.lx {H H' : Hp} {v : V} {t : Bool × Nat} (e : Lx H H') (h : TurnV K H v t) : TurnV K H' v t := by
  obtain ⟨a, h1, h2⟩ := h
  exact ⟨a, h1, SqT.lx e h2⟩
end
/-- a turn, a tuple of its own -/
def TurnT (H : Hp) (v : V) (t : Bool × Nat) : Prop := ∃ a, v = .ref a ∧ H a = some (.tup [.bl t.1, .int (t.2 : Int)])
theorem TurnT.tk {H H' : Hp} (e : ∀ a xs, H a = some (.tup xs) → H' a = some (.tup xs)) {v : V} {t : Bool × Nat} (h : TurnT H v t) : TurnT H' v t := by
  obtain ⟨a, h1, h2⟩ := h
  exact ⟨a, h1, e _ _ h2⟩
theorem TurnT.v {K : PySem.W.Frag} {H : Hp} {v : V} {t : Bool × Nat} (h : TurnT H v t) : TurnV K H v t := by
  obtain ⟨a, h1, h2⟩ := h
  exact ⟨a, h1, SqT.of h2⟩
theorem turnsT {H H' : Hp} (e : ∀ a xs, H a = some (.tup xs) → H' a = some (.tup xs)) {tv : List V} {ts : List (Bool × Nat)} (h : Paired (TurnT H) tv ts) : Paired (TurnT H') tv ts := PairedI (fun _ _ z => z.tk e) h
section
variable {K : PySem.W.Frag}
end
section
variable {K : PySem.W.Frag}
end
/-! ### drawn rows and notes; the package's chooser, by its text -/
structure MoreN (K : PySem.W.Frag) (b : Addr) (H : Hp) (l : Addr) (nv : List V) (N : List (Str × Nat)) : Prop where
  nl : l ≠ b
  hl : H l = some (.lst nv)
  nd : NotesD K H nv N
  z : N.length ≤ 1
  m : ∀ q ∈ N, nameS q.1 = true ∧ 2 ≤ q.2 ∧ q.2 ≤ 4
section
variable {K : PySem.W.Frag}
theorem MoreN.bx {b : Addr} {H H' : Hp} {l : Addr} {nv : List V} {N : List (Str × Nat)} (h : MoreN K b H l nv N) (hb : BoxAt H b) (x : Bx b H H') : MoreN K b H' l nv N := ⟨h.nl, x.keep _ _ h.nl h.hl, NotesD.lx (Lx.bx hb x) h.nd, h.z, h.m⟩
theorem MoreN.same {b : Addr} {H H' : Hp} {l : Addr} {nv : List V} {N : List (Str × Nat)} (h : MoreN K b H l nv N) (x : Same H H') : MoreN K b H' l nv N := ⟨h.nl, x _ _ h.hl, NotesD.same x h.nd, h.z, h.m⟩
end
/-! ### first turns alone, other roads, a slot more -/
section
variable {K : PySem.W.Frag}
theorem HoAt.lx {H H' : Hp} {x : Addr} {h : Hou} (e : Lx H H') (q : HoAt aHo H x h) : HoAt aHo H' x h := by
  obtain ⟨dx, fs, h1, h2⟩ := q
  exact ⟨dx, fs, e _ _ h1 (fun _ z => nomatch z), h2⟩
theorem TupD.lx {H H' : Hp} {t : Addr} {xs : List V} (e : Lx H H') (h : TupD H t xs) : TupD H' t xs := by
  obtain ⟨o, h1, h2⟩ := h
  exact ⟨o, e _ _ h1 (fun _ z => nomatch z), h2⟩
theorem HisAt.lx {H H' : Hp} {x : Addr} {p : Pas} (e : Lx H H') (q : HisAt K aHi H x p) : HisAt K aHi H' x p := by
  obtain ⟨dx, fs, h1, ⟨t7, f7, g7⟩, ⟨t8, v8, f8, g8, r8⟩, ⟨t9, f9, g9⟩⟩ := q
  exact ⟨dx, fs, e _ _ h1 (fun _ z => nomatch z), ⟨t7, f7, g7.lx e⟩, ⟨t8, v8, f8, SqT.lx e g8, PairedI (fun _ _ ⟨a, z1, z2⟩ => ⟨a, z1, SqT.lx e z2⟩) r8⟩, ⟨t9, f9, SqT.lx e g9⟩⟩
end
/-! ### the law's own two ends: tests -/
structure NoteL (K : PySem.W.Frag) (H : Hp) (l : Addr) (N : List (Str × Nat)) : Prop where
  ex : ∃ nv, SqL K H l nv ∧ NotesD K H nv N
  z : N.length ≤ 1
  m : modsOk N
section
variable {K : PySem.W.Frag}
theorem NoteL.same {H H' : Hp} {l : Addr} {N : List (Str × Nat)} (e : Same H H') (h : NoteL K H l N) : NoteL K H' l N := by
  obtain ⟨⟨nv, h1, h2⟩, z, mm⟩ := h
  exact ⟨⟨nv, Same.seqL e h1, NotesD.same e h2⟩, z, mm⟩
theorem NoteL.one {H : Hp} {l : Addr} {N : List (Str × Nat)} (h : NoteL K H l N) {nm : Str} (hn : (N.map (·.1)).contains nm = true) : ∃ m t, N = [(nm, m)] ∧ SqL K H l [.ref t] ∧ SqT K H t [.str nm, .int (m : Int)] ∧ 2 ≤ m ∧ m ≤ 4 := by
  obtain ⟨⟨nv, h1, h2⟩, z, mm⟩ := h
  unfold NotesD at h2
  cases h2 with
  | nil => exact absurd hn Bool.false_ne_true
  | @cons v q vs qs ha hb =>
    cases hb with
    | @cons v2 q2 vs2 qs2 ha2 hb2 => exact absurd z (by rw [List.length_cons, List.length_cons]; omega)
    | nil =>
      obtain ⟨t, e, h4, _, _⟩ := ha
      obtain ⟨nm', m⟩ := q
      have hn := List.contains_iff_mem.mp hn
      have e2 : nm = nm' := List.mem_singleton.mp hn
      rw [e] at h1
      rw [← e2] at h4 mm ⊢
      have h5 := mm (nm, m) (List.mem_singleton.mpr rfl)
      exact ⟨m, t, rfl, h1, h4, h5.1, h5.2⟩
end
/-! ### the law's own two ends: grounds -/
section
variable {K : PySem.W.Frag}
end
/-! ### the law's own two ends: rows -/
def NowAt (K : PySem.W.Frag) (H : Hp) (nw : Addr) (m : Mom) : Prop := ∃ tr, H nw = some (.lst [.ref tr, oV m.chosen, oV m.kept, .bl m.over]) ∧ SqT K H tr (natV m.rests)
section
variable {K : PySem.W.Frag}
theorem NowAt.same {H H' : Hp} {nw : Addr} {m : Mom} (e : Same H H') (h : NowAt K H nw m) : NowAt K H' nw m := by
  obtain ⟨tr, h1, h2⟩ := h
  exact ⟨tr, e _ _ h1, sameT e h2⟩
end
/-! ### the law's own two ends: what they hold -/
def kvE (r s f w c t : Addr) : List (Key × V) := [(.inr "rests", .ref r), (.inr "sent", .ref s), (.inr "far", .ref f), (.inr "shown", .ref w), (.inr "choices", .ref c), (.inr "told", .ref t)]
/-- an object that is no tuple -/
def Nt (o : HO) : Prop := (∀ xs, o ≠ .tup xs) ∧ ∀ q xs, o ≠ .frz q (.tup xs)
theorem Nt.lst (xs : List V) : Nt (.lst xs) := ⟨fun _ z => (nomatch z), fun _ _ z => (nomatch z)⟩
theorem Nt.dK (xs : List (Key × V)) : Nt (.dK xs) := ⟨fun _ z => (nomatch z), fun _ _ z => (nomatch z)⟩
theorem ne_at {H : Hp} {a b : Addr} {o u : HO} (ha : H a = some o) (hb : H b = some u) (no : o ≠ u) : a ≠ b := fun e => by
  rw [e, hb] at ha
  exact no (Option.some.inj ha).symm
def FarAt (H : Hp) (v : V) : Option MadP → Prop
  | none => v = .non
  | some q => ∃ a, v = .ref a ∧ H a = some (.tup [.int (q.num : Int), .str q.shown])
theorem FarAt.same {H H' : Hp} {v : V} {o : Option MadP} (e : Same H H') (h : FarAt H v o) : FarAt H' v o := by
  cases o with
  | none => exact h
  | some q =>
    obtain ⟨a, h1, h2⟩ := h
    exact ⟨a, h1, e _ _ h2⟩
theorem FarAt.nt {H : Hp} {a : Addr} {o u : HO} {v : V} {q : Option MadP} (ha : H a = some o) (no : Nt o) (h : FarAt H v q) : FarAt (upd H a u) v q := by
  cases q with
  | none => exact h
  | some q =>
    obtain ⟨b, h1, h2⟩ := h
    exact ⟨b, h1, at_upd (ne_at h2 ha (fun e => no.1 _ e.symm)) h2⟩
section
variable {K : PySem.W.Frag}
structure EnF (K : PySem.W.Frag) (H0 H : Hp) (d r s f w c t : Addr) (p : Pas) (fv cv : List V) : Prop where
  hd : H d = some (.dK (kvE r s f w c t))
  hr : SqT K H r (natV p.rests)
  hs : H s = some (.lst (p.sent.map oV))
  hf : H f = some (.lst fv)
  pf : Paired (FarAt H) fv p.had
  hw : H w = some (.lst (p.showed.map V.str))
  hc : H c = some (.lst cv)
  pc : Paired (ChcAt K H) cv p.choices
  ht : H t = some (.lst (p.tellings.map V.str))
  nd : (s ≠ f ∧ s ≠ w ∧ s ≠ c ∧ s ≠ t) ∧ (f ≠ w ∧ f ≠ c ∧ f ≠ t) ∧ (w ≠ c ∧ w ≠ t) ∧ c ≠ t
  n0 : H0 d = none ∧ H0 s = none ∧ H0 f = none ∧ H0 w = none ∧ H0 c = none ∧ H0 t = none
theorem EnF.same {H0 H H' : Hp} {d r s f w c t : Addr} {p : Pas} {fv cv : List V} (q : EnF K H0 H d r s f w c t p fv cv) (e : Same H H') : EnF K H0 H' d r s f w c t p fv cv :=
  ⟨e _ _ q.hd, sameT e q.hr, e _ _ q.hs, e _ _ q.hf, PairedI (fun _ _ z => z.same e) q.pf, e _ _ q.hw, e _ _ q.hc, PairedI (fun _ _ ⟨b, h1, h2⟩ => ⟨b, h1, sameT e h2⟩) q.pc, e _ _ q.ht, q.nd, q.n0⟩
/-- what the far end holds -/
def HadW (p : Pas) : Prop := ∀ far, some far ∈ p.had → far.num < p.showed.length ∧ far.shown ∈ [("sound" : Str), "broken", "false"]
end
/-! ### the law's own two ends: one turn -/
theorem HadW.behind {N : List (Str × Nat)} {rl : List RD} {h : Hou} {mo : Option Nat} {p : Pas} {c : Bool} {u : Nat} (q : HadW p) : HadW (behindP N rl h mo p c u) := by
  have es : (behindP N rl h mo p c u).showed = p.showed ++ [if c = true then madeP p mo (momB N rl p u).chosen else "lost"] := rfl
  have ed : (behindP N rl h mo p c u).had = if c = true then setO p.had (momB N rl p u).kept (some ⟨p.showed.length, if c = true then madeP p mo (momB N rl p u).chosen else "lost"⟩) else p.had := rfl
  intro far hf
  rw [ed] at hf
  rw [es, List.length_append]
  have old : some far ∈ p.had → far.num < p.showed.length + 1 ∧ far.shown ∈ [("sound" : Str), "broken", "false"] := fun z => ⟨Nat.lt_succ_of_lt (q far z).1, (q far z).2⟩
  cases c with
  | false => exact old hf
  | true =>
    rw [if_pos rfl, if_pos rfl] at hf
    rcases setO_mem hf with hf | hf
    · exact old hf
    · cases hf
      refine ⟨Nat.lt_succ_self _, ?_⟩
      show madeP p mo (momB N rl p u).chosen ∈ _
      generalize (momB N rl p u).chosen = g
      cases g with
      | none => exact .head _
      | some g =>
        show (match p.sent.getD g none with | some n => madeQ mo n (p.had.getD g none) | none => ("broken" : Str)) ∈ _
        split
        · cases p.had.getD g none with
          | none => exact .tail _ (.head _)
          | some far =>
            show (if far.shown = "broken" ∨ sameP mo far.num _ = false then ("broken" : Str) else if far.num = _ ∧ far.shown = "sound" then ("sound" : Str) else "false") ∈ _
            split
            · exact .tail _ (.head _)
            · split
              · exact .head _
              · exact .tail _ (.tail _ (.head _))
        · exact .tail _ (.head _)
theorem HadW.go {N : List (Str × Nat)} {rl : List RD} {h : Hou} {mo : Option Nat} : ∀ (ts : List (Bool × Nat)) {p : Pas}, HadW p → HadW (goTs N rl h mo p ts)
  | [], _, q => q
  | _ :: ts, _, q => HadW.go ts q.behind
section
variable {K : PySem.W.Frag}
end
/-! ### the law's own two ends: a run -/
section
variable {K : PySem.W.Frag}
end
def spLaw (K : PySem.W.Frag) : Sp := fun vs H Q _ => ∃ (a : Addr) (ns : List Int), vs = [.ref a] ∧ SqL K H a (ns.map V.int) ∧ ns.length ≤ 63 ∧ ∀ H', Q (.bl true) H'
theorem DrR.sub {N : List (Str × Nat)} {L m L' m' : Nat} {rl rl2 : List RD} (h : DrR N L m rl) (hs : ∀ r ∈ rl2, r ∈ rl) (hL : L ≤ L') (hz : (rl2.map (sizeD 3)).sum ≤ m') : DrR N L' m' rl2 := ⟨fun r hr => h.u r (hs r hr), fun r hr n hn => Nat.lt_of_lt_of_le (h.s r (hs r hr) n hn) hL, hz⟩
/-- a run that is to be made -/
structure Cfg where
  t : Addr
  pd : Addr
  tl : Addr
  mo : Option Nat
  xs : List V
  rl : List RD
  h : Hou
  tv : List V
  ts : List (Bool × Nat)
section
variable {K : PySem.W.Frag}
structure CfgB (H : Hp) (q : Cfg) : Prop where
  t : H q.t = some (.tup q.xs)
  p : Paired (RAt H 3) q.xs q.rl
  h : H q.pd = some (.tup (houV q.h))
  l : H q.tl = some (.lst q.tv)
  v : Paired (TurnT H) q.tv q.ts
theorem CfgB.same {H H' : Hp} {q : Cfg} (c : CfgB H q) (e : Same H H') : CfgB H' q := ⟨e _ _ c.t, PairedI (fun _ _ z => RAt.tk (tk_same e) 3 z) c.p, e _ _ c.h, e _ _ c.l, turnsT (tk_same e) c.v⟩
def CfgV (H : Hp) (v : V) (q : Cfg) : Prop := ∃ a, v = .ref a ∧ H a = some (.tup [.ref q.t, .ref q.pd, .ref q.tl, oV q.mo])
theorem CfgV.same {H H' : Hp} {v : V} {q : Cfg} (e : Same H H') (c : CfgV H v q) : CfgV H' v q := by
  obtain ⟨a, h1, h2⟩ := c
  exact ⟨a, h1, e _ _ h2⟩
/-- what is told of a run, twice -/
structure RunF (K : PySem.W.Frag) (aHi : Addr) (H : Hp) (y q w c t : Addr) (cv : List V) (p : Pas) : Prop where
  y : HisAt K aHi H y p
  q : H q = some (.tup [.ref w, .ref c, .ref t])
  w : SqT K H w (p.showed.map V.str)
  c : SqT K H c cv
  v : Paired (ChcAt K H) cv p.choices
  t : SqT K H t (p.tellings.map V.str)
def RunAt (K : PySem.W.Frag) (aHi : Addr) (H : Hp) (v : V) (p : Pas) : Prop := ∃ a y q w c t cv, v = .ref a ∧ H a = some (.tup [.ref y, .ref q]) ∧ RunF K aHi H y q w c t cv p
theorem RunF.lx {H H' : Hp} {y q w c t : Addr} {cv : List V} {p : Pas} (h : RunF K aHi H y q w c t cv p) (e : Lx H H') : RunF K aHi H' y q w c t cv p := ⟨h.y.lx e, e _ _ h.q (fun _ z => nomatch z), SqT.lx e h.w, SqT.lx e h.c, PairedI (fun _ _ ⟨a, z1, z2⟩ => ⟨a, z1, SqT.lx e z2⟩) h.v, SqT.lx e h.t⟩
theorem RunAt.lx {H H' : Hp} {v : V} {p : Pas} (e : Lx H H') (h : RunAt K aHi H v p) : RunAt K aHi H' v p := by
  obtain ⟨a, y, q, w, c, t, cv, h1, h2, h3⟩ := h
  exact ⟨a, y, q, w, c, t, cv, h1, e _ _ h2 (fun _ z => nomatch z), h3.lx e⟩
theorem RunF.dp {H : Hp} {y q w c t : Addr} {cv : List V} {p : Pas} (h : RunF K aHi H y q w c t cv p) : Dp K H (.ref q) (hisD p) := .tup (SqT.of h.q) (.cons (.tup h.w (dp_words _)) (.cons (.tup h.c (dp_chs h.v)) (.cons (.tup h.t (dp_words _)) .nil)))
end
/-! ### facts taken together: a def, a method, a class, an error class, a row's class -/
section
variable {P : Program} {K : PySem.W.Frag} {mg : Str → Option Value} {h : Heap} {x q m : Str} {st : Stmt} {f C : Addr} {od an : Option Addr} {sl : Array (Option Value)} {oc kV dc pm cd ct : Value}
theorem bd (X : K.In h) (G : h.Ns mainGlobals mg) (a : PySem.W.nsIn K mainGlobals x = some (some (.ref f))) (l : K.lookup f = some ⟨oc, od, .func (PySem.W.fnOf x x (defArgs st) (defBody st) (defScope st) .none kV dc pm an cd ct), sl⟩) (c : PySem.W.codeIn K cd x = true) (k : PySem.W.keepIn K (.ref f) = true) : DefAt K mg x st := ⟨_, _, PySem.W.mg_of X G a, fun_mk (st := st) l c k⟩
def MetR (K : PySem.W.Frag) (C : Addr) (m q : Str) (st : Stmt) : Prop := Cls K C → MetAt K C m q st
theorem bm (i : PySem.W.findIn K (.ref C) m = some (some (.ref f))) (fi : PySem.W.isFn K (.ref f) = true) (l : K.lookup f = some ⟨oc, od, .func (PySem.W.fnOf m q (defArgs st) (defBody st) (defScope st) .none kV dc pm an cd ct), sl⟩) (c : PySem.W.codeIn K cd q = true) (k : PySem.W.keepIn K (.ref f) = true) : MetR K C m q st := fun cl => ⟨cl, _, _, ⟨i, fi, k⟩, fun_mk (st := st) l c k⟩
def ClsH (K : PySem.W.Frag) (C : Addr) (q : Str) (st : Stmt) : Prop := Cls K C ∧ ∃ f fd, Mk K C f ∧ Fun K "__init__" q st f fd
theorem bc (pg : PySem.W.plainGet K C Str.empty = true) (hd : PySem.W.hasDictIn K C = true) (po : PySem.W.plainOver K C = true) (sa : PySem.W.findIn K (.ref C) "__setattr__" = some (some (.builtin "object.__setattr__"))) (mk : PySem.W.makesIn K C = true) (kc : PySem.W.keepIn K (.ref C) = true)
    (i : PySem.W.findIn K (.ref C) "__init__" = some (some (.ref f))) (fi : PySem.W.isFn K (.ref f) = true) (l : K.lookup f = some ⟨oc, od, .func (PySem.W.fnOf "__init__" q (defArgs st) (defBody st) (defScope st) .none kV dc pm an cd ct), sl⟩) (c : PySem.W.codeIn K cd q = true) (k : PySem.W.keepIn K (.ref f) = true) : ClsH K C q st := ⟨⟨pg, hd, po, sa⟩, f, _, ⟨mk, i, fi, kc⟩, fun_mk (st := st) l c k⟩
theorem be {nm q0 : Str} {N g : Addr} {bs : List Value} {sn : List Str} {sub : List Value} {ab : Bool} {col : Option Bool} {dd : Option Addr} {m0 m1 m2 m3 m5 : Option Value} (X : K.In h) (G : h.Ns mainGlobals mg) (a : PySem.W.nsIn K mainGlobals x = some (some (.ref C)))
    (xx : K.lookup C = some (excClassObj nm q0 C N bs [.ref g, .type "ValueError", .type "Exception", .type "BaseException", .type "object"] true sn sub ab col dd m0 m1 m2 m3 m5 "ValueError.__new__")) (sa : PySem.W.findIn K (.ref C) "__setattr__" = some (some (.builtin "object.__setattr__"))) (ex : PySem.W.subIn K (.ref C) (.type "BaseException") = some true) (ty : PySem.W.typeIn K (.ref C) = some (.type "type")) (kc : PySem.W.keepIn K (.ref C) = true)
    (i : PySem.W.findIn K (.ref C) "__init__" = some (some (.ref f))) (ti : PySem.W.typeIn K (.ref f) = some (.type "function")) (l : K.lookup f = some ⟨oc, od, .func (PySem.W.fnOf "__init__" q (defArgs st) (defBody st) (defScope st) .none kV dc pm an cd ct), sl⟩) (c : PySem.W.codeIn K cd q = true) (k : PySem.W.keepIn K (.ref f) = true) : ErrAt K mg x q st C :=
  ⟨PySem.W.mg_of X G a, ⟨⟨nm, q0, N, bs, _, sn, sub, ab, col, dd, m0, m1, m2, m3, m5, xx, rfl⟩, sa, ex, ty, kc⟩, _, _, i, ti, fun_mk (st := st) l c k⟩
def RowH (P : Program) (K : PySem.W.Frag) (mg : Str → Option Value) (x q : Str) (st : Stmt) (C f2 : Addr) : Prop := mg x = some (.ref C) → (PySem.W.clsIn K C).isSome = true → PySem.W.mroIn K C (.ref C) = some true → mg "super" = none → (P.main.scope.names.lookup ("super" : Str)).isSome = false → PySem.W.typeIn K (.ref f2) = some (.type "function") → PySem.W.fnIn K f2 = true → PySem.W.nsIn K cStatics "thirdparty.any" = some none → RowK P K mg x q st C f2
theorem br {f2 cc cda : Addr} {cld cdd : Option Addr} {csl ccs : Array (Option Value)} {cl0 ccl : Value} {vs : Array Value} {fi : Str} {tf : Tok} (mk : PySem.W.makesIn K C = true) (kc : PySem.W.keepIn K (.ref C) = true) (i : PySem.W.findIn K (.ref C) "__init__" = some (some (.ref f))) (fn : PySem.W.isFn K (.ref f) = true)
    (l : K.lookup f = some ⟨oc, od, .func (PySem.W.ksFn "__init__" q (defArgs st) (defBody st) (defScope st) .none kV dc pm an (.ref cda) ct cc), sl⟩) (c : PySem.W.codeIn K (.ref cda) q = true) (ce : K.lookup cc = some ⟨cl0, cld, .cell (some (.ref C)), csl⟩) (co : K.lookup cda = some ⟨ccl, cdd, .fields vs, ccs⟩) (v2 : vs[2]? = some (.str fi tf)) (fe : ((P.main.file : Str) == fi) = true) (su : PySem.W.ks_superIn K C C "__init__" = some (some (.ref f2))) : RowH P K mg x q st C f2 :=
  fun m ci me ns st' ty fn2 o => ⟨m, f, cc, cda, kV, dc, pm, ct, oc, an, od, sl, ⟨mk, i, fn, kc⟩, l, c, ⟨⟨cl0, cld, csl, ce⟩, ⟨ccl, cdd, vs, ccs, fi, tf, co, v2, fe⟩, ci, me, ns, st', su, ty, fn2, o⟩⟩
end
-- not yet: all23
end
end Hg
end L2

local macro_rules | `(tactic| tm_at "k") => `(tactic| first | (as_aux_lemma => k_is) | skip)
local macro_rules | `(tactic| tm_at "kr") => `(tactic| first | (as_aux_lemma => k_is) | (as_aux_lemma => rfl) | (as_aux_lemma => kernel_rfl) | skip)
open PySem PySem.W PyProof.Rows in
set_option maxRecDepth 100000 in
set_option maxHeartbeats 0 in
theorem PySem.Challenge.cw_heldground_k23_histories_compared_holds : PySem.Challenge.rw_heldground_k23_histories_compared.Holds := by
  refine L2.Sg.head ?_
  k_fill
  refine L2.Hg.walk_ofG (l := PySem.Challenge.rw_heldground_k23_histories_compared) (n := 63) (k := 21) (x := "_law_script") (sp := L2.Hg.spLaw) rfl (by decide) rfl ⟨rfl, by decide, by decide⟩ (fun w h Y => PySem.W.kIn_of Y) ?F (fun K H a ns hl hS => ⟨a, ns, rfl, hS, hl, fun _ => rfl⟩)
  case F =>
    intro w mg h KX G
    refine' L2.Hg.all_mk KX G ?a_GroundError ?bs_GroundError ?br_GroundError ?bf_GroundError ?at_InvalidRow ?at_NoNote ?na_aIR_part ?na_aNN_name ?a_Row ?a_Test ?a_Part ?pg_Part ?hd_Part ?po_Part ?sa_Part ?mk_Part ?kc_Part ?i_Part ?if_Part ?l_Part ?c_Part ?k_Part ?t_Part ?v_Part ?le1 ?le2 ?z_super ?sp_ty ?sp_fn ?sp_opq ?sp_top ?a_Whole ?RW_Whole ?a_Oldest ?RW_Oldest ?a_KeepOldest ?RW_KeepOldest ?a_KeepNone ?RW_KeepNone ?a_Stop ?RW_Stop ?a_Newest ?RW_Newest ?a_AnySure ?RW_AnySure ?a_Keep ?RW_Keep ?a_Sure ?RW_Sure ?a_Missed ?RW_Missed ?a_Untold ?RW_Untold ?a_Bare ?RW_Bare ?a_Put ?RW_Put ?a_Add ?RW_Add ?a_Holds ?RW_Holds ?a_Not ?RW_Not ?a_From ?mk_From ?kc_From ?i_From ?if_From ?l_From ?t_From ?c_From ?ce_From ?co_From ?v2_From ?fe_From ?su_From ?a_If ?mk_If ?kc_If ?i_If ?if_If ?l_If ?t_If ?c_If ?ce_If ?co_If ?v2_If ?fe_If ?su_If ?cl ?no ?kt ?kp ?fmb ?i_Pstr ?if_Pstr ?strb ?l_Ps ?c_Ps ?k_Ps ?kT ?cgB ?ctB ?a_LAST_SLOT ?a_MOST_LETTERS ?a_LETTERS ?a_BARRED ?l_BARRED ?o_BARRED ?v_BARRED ?i_Rin ?if_Rin ?l_Rin ?c_Rin ?k_Rin ?i_Iin ?if_Iin ?l_Iin ?c_Iin ?k_Iin ?innb ?kf ?ku ?a_LEAST_MODULUS ?a_MOST_MODULUS ?a_Chooser ?pg_Chooser ?hd_Chooser ?po_Chooser ?sa_Chooser ?mk_Chooser ?kc_Chooser ?i_Chooser ?if_Chooser ?l_Chooser ?c_Chooser ?k_Chooser ?t_Chooser ?v_Chooser ?laE ?le5 ?le6 ?na_aCh_rows ?na_aCh_notes ?na_aCh_numbered ?na_aCh_needs ?na_aCh_loose ?at_Mismatch ?at_InvalidTurn ?at_InvalidHouse ?na_aIT_at ?na_aIH_word ?a_House ?pg_House ?hd_House ?po_House ?sa_House ?mk_House ?kc_House ?i_House ?if_House ?l_House ?c_House ?k_House ?t_House ?v_House ?a_Brain ?c_Brain ?a_Moment ?c_Moment ?a_Passage ?c_Passage ?a_Made ?c_Made ?a_History ?c_History ?na_aHo_slots ?na_aHo_lateness ?na_aHo_losses ?na_aHo_window ?na_aBr_begin_rows ?na_aBr_moduli ?na_aBr_spots ?na_aBr_opening ?na_aMn_held_rests ?na_aMn_signs ?na_aMn_newest_first ?na_aMn_chosen ?na_aMn_kept_in ?na_aMn_is_over ?na_aPa_brain ?na_aPa_house ?na_aPa_modulus ?na_aPa_rests ?na_aPa_sent ?na_aPa_had ?na_aPa_showed ?na_aPa_choices ?na_aPa_tellings ?na_aPa_fates ?na_aPa_last_unheard ?na_aMd_number ?na_aMd_shown_as ?na_aHi_shown ?na_aHi_choices ?na_aHi_told ?at_House_is_lost ?at_House_fates_behind ?at_Brain_choose ?at_Brain_do_rows ?at_Brain_do_one ?at_Brain_noted ?at_Brain_holds ?at_Made_is_broken ?at_Passage_can_go ?at_Passage_told_of ?at_Passage_letter ?at_Passage_is_same ?at_Passage_made_of ?at_Passage_behind ?at_History__eq ?a_run ?l_run ?c_run ?k_run ?t_run ?v_run ?a_BARE ?a_UNTOLD ?a_SURE ?a_MISSED ?a_LOST ?a_BROKEN ?a_SOUND ?a_FALSE ?a_MOST_SLOTS ?a_MOST_LATENESS ?a_MOST_LOSSES ?a_MOST_WINDOW ?kRR ?kTy ?kHH ?nfH ?neH ?at_InvalidChooser ?na_aIC_at ?a_SLOTS ?l_SLOTS ?o_SLOTS ?v_SLOTS ?a_MODULI ?l_MODULI ?o_MODULI ?v_MODULI ?a_MOST_DIGITS ?a_DIGITS ?a_Block ?c_Block ?a_Reader ?c_Reader ?na_aBl_asks ?na_aBl_ahead ?na_aBl_found ?na_aRe_known ?na_aRe_blocks ?at_Reader_read_line ?at_Reader_read_note ?at_Reader_open_block ?at_Reader_turn_over ?at_Reader_close ?cg_Chooser ?cr_Chooser ?i_Chooser_read ?pr_Chooser_read ?l_Chooser_read ?c_Chooser_read ?k_Chooser_read ?oth ?ktH ?ntH ?z_int ?z_len ?z_abs ?z_range ?z_min ?z_max ?z_bool ?z_str ?z_repr ?z_isinstance ?z_tuple ?z_list ?z_all ?z_zip ?z_enumerate ?z_sorted ?at_law_box ?at_law_take ?at_law_pick ?at_law_mixed ?at_law_names ?at_law_world ?at_law_number ?at_law_any_test ?at_law_any_row ?at_law_any_rows ?at_law_wide_rows ?at_law_test_text ?at_law_lines ?at_law_whole_lines ?at_law_chooser ?at_law_drawn_house ?at_law_can_lose ?at_law_turns ?at_law_house_of ?at_law_drawn ?at_law_is_so ?at_law_ground ?at_law_do_rows ?at_law_ends ?at_law_letters ?at_law_made ?at_law_go ?at_law_history ?at_law ?at_is_integer ?at_is_from ?at_is_name ?at_need_slot ?at_need_name ?at_need_number ?at_need_test ?at_need_rows ?at_lines_of ?at_inner_rows ?at_is_note ?at_need_notes ?at_most_slots ?at_letter_of ?at_oldest_slot ?at_ground_of ?at_need_room ?at_is_turn ?at_ordered ?at_exchanged ?at_begun ?at_number_of ?at_test_of ?at_plain_test ?at_slot_test ?at_note_row ?at_slot_row ?at_row_of ?at_read_lines
    (case a_GroundError => as_aux_lemma => k_is)
    (case bs_GroundError => as_aux_lemma => k_is)
    (case br_GroundError => as_aux_lemma => k_is)
    (case bf_GroundError => as_aux_lemma => k_is)
    (case at_InvalidRow => refine' L2.Hg.be KX G ?_ ?_ ?_ ?_ ?_ ?_ ?_ ?_ ?_ ?_ ?_ <;> tm_at "k")
    (case at_NoNote => refine' L2.Hg.be KX G ?_ ?_ ?_ ?_ ?_ ?_ ?_ ?_ ?_ ?_ ?_ <;> tm_at "k")
    (case na_aIR_part => as_aux_lemma => k_is)
    (case na_aNN_name => as_aux_lemma => k_is)
    (case a_Row => as_aux_lemma => k_is)
    (case a_Test => as_aux_lemma => k_is)
    (case a_Part => as_aux_lemma => k_is)
    (case pg_Part => as_aux_lemma => k_is)
    (case hd_Part => as_aux_lemma => k_is)
    (case po_Part => as_aux_lemma => k_is)
    (case sa_Part => as_aux_lemma => k_is)
    (case mk_Part => as_aux_lemma => k_is)
    (case kc_Part => as_aux_lemma => k_is)
    (case i_Part => as_aux_lemma => k_is)
    (case if_Part => as_aux_lemma => k_is)
    (case l_Part => as_aux_lemma => k_is)
    (case c_Part => as_aux_lemma => k_is)
    (case k_Part => as_aux_lemma => k_is)
    (case t_Part => as_aux_lemma => k_is)
    (case v_Part => repeat (first | exact .nil | refine .cons (by first | rfl | exact ⟨_, rfl⟩) ?_))
    (case le1 => as_aux_lemma => k_is)
    (case le2 => as_aux_lemma => k_is)
    (case z_super => as_aux_lemma => k_is)
    (case sp_ty => as_aux_lemma => k_is)
    (case sp_opq => as_aux_lemma => k_is)
    (case a_Whole => as_aux_lemma => k_is)
    (case RW_Whole => refine' L2.Hg.br ?_ ?_ ?_ ?_ ?_ ?_ ?_ ?_ ?_ ?_ ?_ <;> tm_at "kr")
    (case a_Oldest => as_aux_lemma => k_is)
    (case RW_Oldest => refine' L2.Hg.br ?_ ?_ ?_ ?_ ?_ ?_ ?_ ?_ ?_ ?_ ?_ <;> tm_at "kr")
    (case a_KeepOldest => as_aux_lemma => k_is)
    (case RW_KeepOldest => refine' L2.Hg.br ?_ ?_ ?_ ?_ ?_ ?_ ?_ ?_ ?_ ?_ ?_ <;> tm_at "kr")
    (case a_KeepNone => as_aux_lemma => k_is)
    (case RW_KeepNone => refine' L2.Hg.br ?_ ?_ ?_ ?_ ?_ ?_ ?_ ?_ ?_ ?_ ?_ <;> tm_at "kr")
    (case a_Stop => as_aux_lemma => k_is)
    (case RW_Stop => refine' L2.Hg.br ?_ ?_ ?_ ?_ ?_ ?_ ?_ ?_ ?_ ?_ ?_ <;> tm_at "kr")
    (case a_Newest => as_aux_lemma => k_is)
    (case RW_Newest => refine' L2.Hg.br ?_ ?_ ?_ ?_ ?_ ?_ ?_ ?_ ?_ ?_ ?_ <;> tm_at "kr")
    (case a_AnySure => as_aux_lemma => k_is)
    (case RW_AnySure => refine' L2.Hg.br ?_ ?_ ?_ ?_ ?_ ?_ ?_ ?_ ?_ ?_ ?_ <;> tm_at "kr")
    (case a_Keep => as_aux_lemma => k_is)
    (case RW_Keep => refine' L2.Hg.br ?_ ?_ ?_ ?_ ?_ ?_ ?_ ?_ ?_ ?_ ?_ <;> tm_at "kr")
    (case a_Sure => as_aux_lemma => k_is)
    (case RW_Sure => refine' L2.Hg.br ?_ ?_ ?_ ?_ ?_ ?_ ?_ ?_ ?_ ?_ ?_ <;> tm_at "kr")
    (case a_Missed => as_aux_lemma => k_is)
    (case RW_Missed => refine' L2.Hg.br ?_ ?_ ?_ ?_ ?_ ?_ ?_ ?_ ?_ ?_ ?_ <;> tm_at "kr")
    (case a_Untold => as_aux_lemma => k_is)
    (case RW_Untold => refine' L2.Hg.br ?_ ?_ ?_ ?_ ?_ ?_ ?_ ?_ ?_ ?_ ?_ <;> tm_at "kr")
    (case a_Bare => as_aux_lemma => k_is)
    (case RW_Bare => refine' L2.Hg.br ?_ ?_ ?_ ?_ ?_ ?_ ?_ ?_ ?_ ?_ ?_ <;> tm_at "kr")
    (case a_Put => as_aux_lemma => k_is)
    (case RW_Put => refine' L2.Hg.br ?_ ?_ ?_ ?_ ?_ ?_ ?_ ?_ ?_ ?_ ?_ <;> tm_at "kr")
    (case a_Add => as_aux_lemma => k_is)
    (case RW_Add => refine' L2.Hg.br ?_ ?_ ?_ ?_ ?_ ?_ ?_ ?_ ?_ ?_ ?_ <;> tm_at "kr")
    (case a_Holds => as_aux_lemma => k_is)
    (case RW_Holds => refine' L2.Hg.br ?_ ?_ ?_ ?_ ?_ ?_ ?_ ?_ ?_ ?_ ?_ <;> tm_at "kr")
    (case a_Not => as_aux_lemma => k_is)
    (case RW_Not => refine' L2.Hg.br ?_ ?_ ?_ ?_ ?_ ?_ ?_ ?_ ?_ ?_ ?_ <;> tm_at "kr")
    (case a_From => as_aux_lemma => k_is)
    (case mk_From => as_aux_lemma => k_is)
    (case kc_From => as_aux_lemma => k_is)
    (case i_From => as_aux_lemma => k_is)
    (case if_From => as_aux_lemma => k_is)
    (case l_From => as_aux_lemma => k_is)
    (case t_From => as_aux_lemma => k_is)
    (case c_From => as_aux_lemma => k_is)
    (case ce_From => as_aux_lemma => k_is)
    (case co_From => as_aux_lemma => k_is)
    (case v2_From => first | rfl | k_is)
    (case fe_From => first | rfl | kernel_rfl | k_is)
    (case su_From => first | kernel_rfl | k_is)
    (case a_If => as_aux_lemma => k_is)
    (case mk_If => as_aux_lemma => k_is)
    (case kc_If => as_aux_lemma => k_is)
    (case i_If => as_aux_lemma => k_is)
    (case if_If => as_aux_lemma => k_is)
    (case l_If => as_aux_lemma => k_is)
    (case t_If => as_aux_lemma => k_is)
    (case c_If => as_aux_lemma => k_is)
    (case ce_If => as_aux_lemma => k_is)
    (case co_If => as_aux_lemma => k_is)
    (case v2_If => first | rfl | k_is)
    (case fe_If => first | rfl | kernel_rfl | k_is)
    (case su_If => first | kernel_rfl | k_is)
    (case i_Pstr => as_aux_lemma => k_is)
    (case if_Pstr => as_aux_lemma => k_is)
    (case l_Ps => as_aux_lemma => k_is)
    (case c_Ps => as_aux_lemma => k_is)
    (case k_Ps => as_aux_lemma => k_is)
    (case cgB => as_aux_lemma => k_is)
    (case ctB => as_aux_lemma => k_is)
    (case a_LAST_SLOT => as_aux_lemma => k_is)
    (case a_MOST_LETTERS => as_aux_lemma => k_is)
    (case a_LETTERS => as_aux_lemma => k_is)
    (case a_BARRED => as_aux_lemma => k_is)
    (case l_BARRED => as_aux_lemma => k_is)
    (case o_BARRED => exact rfl)
    (case v_BARRED => repeat (first | exact .nil | refine .cons (by first | rfl | exact ⟨_, rfl⟩) ?_))
    (case i_Rin => as_aux_lemma => k_is)
    (case if_Rin => as_aux_lemma => k_is)
    (case l_Rin => as_aux_lemma => k_is)
    (case c_Rin => as_aux_lemma => k_is)
    (case k_Rin => as_aux_lemma => k_is)
    (case i_Iin => as_aux_lemma => k_is)
    (case if_Iin => as_aux_lemma => k_is)
    (case l_Iin => as_aux_lemma => k_is)
    (case c_Iin => as_aux_lemma => k_is)
    (case k_Iin => as_aux_lemma => k_is)
    (case a_LEAST_MODULUS => as_aux_lemma => k_is)
    (case a_MOST_MODULUS => as_aux_lemma => k_is)
    (case a_Chooser => as_aux_lemma => k_is)
    (case pg_Chooser => as_aux_lemma => k_is)
    (case hd_Chooser => as_aux_lemma => k_is)
    (case po_Chooser => as_aux_lemma => k_is)
    (case sa_Chooser => as_aux_lemma => k_is)
    (case mk_Chooser => as_aux_lemma => k_is)
    (case kc_Chooser => as_aux_lemma => k_is)
    (case i_Chooser => as_aux_lemma => k_is)
    (case if_Chooser => as_aux_lemma => k_is)
    (case l_Chooser => as_aux_lemma => k_is)
    (case c_Chooser => as_aux_lemma => k_is)
    (case k_Chooser => as_aux_lemma => k_is)
    (case t_Chooser => as_aux_lemma => k_is)
    (case v_Chooser => repeat (first | exact .nil | refine .cons (by first | rfl | exact ⟨_, rfl⟩) ?_))
    (case laE => as_aux_lemma => k_is)
    (case le5 => as_aux_lemma => k_is)
    (case le6 => as_aux_lemma => k_is)
    (case na_aCh_rows => as_aux_lemma => k_is)
    (case na_aCh_notes => as_aux_lemma => k_is)
    (case na_aCh_numbered => as_aux_lemma => k_is)
    (case na_aCh_needs => as_aux_lemma => k_is)
    (case na_aCh_loose => as_aux_lemma => k_is)
    (case at_Mismatch => refine' L2.Hg.be KX G ?_ ?_ ?_ ?_ ?_ ?_ ?_ ?_ ?_ ?_ ?_ <;> tm_at "k")
    (case at_InvalidTurn => refine' L2.Hg.be KX G ?_ ?_ ?_ ?_ ?_ ?_ ?_ ?_ ?_ ?_ ?_ <;> tm_at "k")
    (case at_InvalidHouse => refine' L2.Hg.be KX G ?_ ?_ ?_ ?_ ?_ ?_ ?_ ?_ ?_ ?_ ?_ <;> tm_at "k")
    (case na_aIT_at => as_aux_lemma => k_is)
    (case na_aIH_word => as_aux_lemma => k_is)
    (case a_House => as_aux_lemma => k_is)
    (case pg_House => as_aux_lemma => k_is)
    (case hd_House => as_aux_lemma => k_is)
    (case po_House => as_aux_lemma => k_is)
    (case sa_House => as_aux_lemma => k_is)
    (case mk_House => as_aux_lemma => k_is)
    (case kc_House => as_aux_lemma => k_is)
    (case i_House => as_aux_lemma => k_is)
    (case if_House => as_aux_lemma => k_is)
    (case l_House => as_aux_lemma => k_is)
    (case c_House => as_aux_lemma => k_is)
    (case k_House => as_aux_lemma => k_is)
    (case t_House => as_aux_lemma => k_is)
    (case v_House => repeat (first | exact .nil | refine .cons (by first | rfl | exact ⟨_, rfl⟩) ?_))
    (case a_Brain => as_aux_lemma => k_is)
    (case c_Brain => refine' L2.Hg.bc ?_ ?_ ?_ ?_ ?_ ?_ ?_ ?_ ?_ ?_ ?_ <;> tm_at "k")
    (case a_Moment => as_aux_lemma => k_is)
    (case c_Moment => refine' L2.Hg.bc ?_ ?_ ?_ ?_ ?_ ?_ ?_ ?_ ?_ ?_ ?_ <;> tm_at "k")
    (case a_Passage => as_aux_lemma => k_is)
    (case c_Passage => refine' L2.Hg.bc ?_ ?_ ?_ ?_ ?_ ?_ ?_ ?_ ?_ ?_ ?_ <;> tm_at "k")
    (case a_Made => as_aux_lemma => k_is)
    (case c_Made => refine' L2.Hg.bc ?_ ?_ ?_ ?_ ?_ ?_ ?_ ?_ ?_ ?_ ?_ <;> tm_at "k")
    (case a_History => as_aux_lemma => k_is)
    (case c_History => refine' L2.Hg.bc ?_ ?_ ?_ ?_ ?_ ?_ ?_ ?_ ?_ ?_ ?_ <;> tm_at "k")
    (case na_aHo_slots => as_aux_lemma => k_is)
    (case na_aHo_lateness => as_aux_lemma => k_is)
    (case na_aHo_losses => as_aux_lemma => k_is)
    (case na_aHo_window => as_aux_lemma => k_is)
    (case na_aBr_begin_rows => as_aux_lemma => k_is)
    (case na_aBr_moduli => as_aux_lemma => k_is)
    (case na_aBr_spots => as_aux_lemma => k_is)
    (case na_aBr_opening => as_aux_lemma => k_is)
    (case na_aMn_held_rests => as_aux_lemma => k_is)
    (case na_aMn_signs => as_aux_lemma => k_is)
    (case na_aMn_newest_first => as_aux_lemma => k_is)
    (case na_aMn_chosen => as_aux_lemma => k_is)
    (case na_aMn_kept_in => as_aux_lemma => k_is)
    (case na_aMn_is_over => as_aux_lemma => k_is)
    (case na_aPa_brain => as_aux_lemma => k_is)
    (case na_aPa_house => as_aux_lemma => k_is)
    (case na_aPa_modulus => as_aux_lemma => k_is)
    (case na_aPa_rests => as_aux_lemma => k_is)
    (case na_aPa_sent => as_aux_lemma => k_is)
    (case na_aPa_had => as_aux_lemma => k_is)
    (case na_aPa_showed => as_aux_lemma => k_is)
    (case na_aPa_choices => as_aux_lemma => k_is)
    (case na_aPa_tellings => as_aux_lemma => k_is)
    (case na_aPa_fates => as_aux_lemma => k_is)
    (case na_aPa_last_unheard => as_aux_lemma => k_is)
    (case na_aMd_number => as_aux_lemma => k_is)
    (case na_aMd_shown_as => as_aux_lemma => k_is)
    (case na_aHi_shown => as_aux_lemma => k_is)
    (case na_aHi_choices => as_aux_lemma => k_is)
    (case na_aHi_told => as_aux_lemma => k_is)
    (case at_House_is_lost => refine' L2.Hg.bm ?_ ?_ ?_ ?_ ?_ <;> tm_at "k")
    (case at_House_fates_behind => refine' L2.Hg.bm ?_ ?_ ?_ ?_ ?_ <;> tm_at "k")
    (case at_Brain_choose => refine' L2.Hg.bm ?_ ?_ ?_ ?_ ?_ <;> tm_at "k")
    (case at_Brain_do_rows => refine' L2.Hg.bm ?_ ?_ ?_ ?_ ?_ <;> tm_at "k")
    (case at_Brain_do_one => refine' L2.Hg.bm ?_ ?_ ?_ ?_ ?_ <;> tm_at "k")
    (case at_Brain_noted => refine' L2.Hg.bm ?_ ?_ ?_ ?_ ?_ <;> tm_at "k")
    (case at_Brain_holds => refine' L2.Hg.bm ?_ ?_ ?_ ?_ ?_ <;> tm_at "k")
    (case at_Made_is_broken => refine' L2.Hg.bm ?_ ?_ ?_ ?_ ?_ <;> tm_at "k")
    (case at_Passage_can_go => refine' L2.Hg.bm ?_ ?_ ?_ ?_ ?_ <;> tm_at "k")
    (case at_Passage_told_of => refine' L2.Hg.bm ?_ ?_ ?_ ?_ ?_ <;> tm_at "k")
    (case at_Passage_letter => refine' L2.Hg.bm ?_ ?_ ?_ ?_ ?_ <;> tm_at "k")
    (case at_Passage_is_same => refine' L2.Hg.bm ?_ ?_ ?_ ?_ ?_ <;> tm_at "k")
    (case at_Passage_made_of => refine' L2.Hg.bm ?_ ?_ ?_ ?_ ?_ <;> tm_at "k")
    (case at_Passage_behind => refine' L2.Hg.bm ?_ ?_ ?_ ?_ ?_ <;> tm_at "k")
    (case at_History__eq => refine' L2.Hg.bm ?_ ?_ ?_ ?_ ?_ <;> tm_at "k")
    (case a_run => as_aux_lemma => k_is)
    (case l_run => as_aux_lemma => k_is)
    (case c_run => as_aux_lemma => k_is)
    (case k_run => as_aux_lemma => k_is)
    (case t_run => as_aux_lemma => k_is)
    (case v_run => repeat (first | exact .nil | refine .cons (by first | rfl | exact ⟨_, rfl⟩) ?_))
    (case a_BARE => as_aux_lemma => k_is)
    (case a_UNTOLD => as_aux_lemma => k_is)
    (case a_SURE => as_aux_lemma => k_is)
    (case a_MISSED => as_aux_lemma => k_is)
    (case a_LOST => as_aux_lemma => k_is)
    (case a_BROKEN => as_aux_lemma => k_is)
    (case a_SOUND => as_aux_lemma => k_is)
    (case a_FALSE => as_aux_lemma => k_is)
    (case a_MOST_SLOTS => as_aux_lemma => k_is)
    (case a_MOST_LATENESS => as_aux_lemma => k_is)
    (case a_MOST_LOSSES => as_aux_lemma => k_is)
    (case a_MOST_WINDOW => as_aux_lemma => k_is)
    (case at_InvalidChooser => refine' L2.Hg.be KX G ?_ ?_ ?_ ?_ ?_ ?_ ?_ ?_ ?_ ?_ ?_ <;> tm_at "k")
    (case na_aIC_at => as_aux_lemma => k_is)
    (case a_SLOTS => as_aux_lemma => k_is)
    (case l_SLOTS => as_aux_lemma => k_is)
    (case o_SLOTS => exact rfl)
    (case v_SLOTS => repeat (first | exact .nil | refine .cons (by first | rfl | exact ⟨_, rfl⟩) ?_))
    (case a_MODULI => as_aux_lemma => k_is)
    (case l_MODULI => as_aux_lemma => k_is)
    (case o_MODULI => exact rfl)
    (case v_MODULI => repeat (first | exact .nil | refine .cons (by first | rfl | exact ⟨_, rfl⟩) ?_))
    (case a_MOST_DIGITS => as_aux_lemma => k_is)
    (case a_DIGITS => as_aux_lemma => k_is)
    (case a_Block => as_aux_lemma => k_is)
    (case c_Block => refine' L2.Hg.bc ?_ ?_ ?_ ?_ ?_ ?_ ?_ ?_ ?_ ?_ ?_ <;> tm_at "k")
    (case a_Reader => as_aux_lemma => k_is)
    (case c_Reader => refine' L2.Hg.bc ?_ ?_ ?_ ?_ ?_ ?_ ?_ ?_ ?_ ?_ ?_ <;> tm_at "k")
    (case na_aBl_asks => as_aux_lemma => k_is)
    (case na_aBl_ahead => as_aux_lemma => k_is)
    (case na_aBl_found => as_aux_lemma => k_is)
    (case na_aRe_known => as_aux_lemma => k_is)
    (case na_aRe_blocks => as_aux_lemma => k_is)
    (case at_Reader_read_line => refine' L2.Hg.bm ?_ ?_ ?_ ?_ ?_ <;> tm_at "k")
    (case at_Reader_read_note => refine' L2.Hg.bm ?_ ?_ ?_ ?_ ?_ <;> tm_at "k")
    (case at_Reader_open_block => refine' L2.Hg.bm ?_ ?_ ?_ ?_ ?_ <;> tm_at "k")
    (case at_Reader_turn_over => refine' L2.Hg.bm ?_ ?_ ?_ ?_ ?_ <;> tm_at "k")
    (case at_Reader_close => refine' L2.Hg.bm ?_ ?_ ?_ ?_ ?_ <;> tm_at "k")
    (case cg_Chooser => as_aux_lemma => k_is)
    (case cr_Chooser => as_aux_lemma => k_is)
    (case i_Chooser_read => as_aux_lemma => k_is)
    (case pr_Chooser_read => as_aux_lemma => k_is)
    (case l_Chooser_read => as_aux_lemma => k_is)
    (case c_Chooser_read => as_aux_lemma => k_is)
    (case k_Chooser_read => as_aux_lemma => k_is)
    (case z_int => as_aux_lemma => k_is)
    (case z_len => as_aux_lemma => k_is)
    (case z_abs => as_aux_lemma => k_is)
    (case z_range => as_aux_lemma => k_is)
    (case z_min => as_aux_lemma => k_is)
    (case z_max => as_aux_lemma => k_is)
    (case z_bool => as_aux_lemma => k_is)
    (case z_str => as_aux_lemma => k_is)
    (case z_repr => as_aux_lemma => k_is)
    (case z_isinstance => as_aux_lemma => k_is)
    (case z_tuple => as_aux_lemma => k_is)
    (case z_list => as_aux_lemma => k_is)
    (case z_all => as_aux_lemma => k_is)
    (case z_zip => as_aux_lemma => k_is)
    (case z_enumerate => as_aux_lemma => k_is)
    (case z_sorted => as_aux_lemma => k_is)
    (case at_law_box => refine' L2.Hg.bd KX G ?_ ?_ ?_ ?_ <;> tm_at "k")
    (case at_law_take => refine' L2.Hg.bd KX G ?_ ?_ ?_ ?_ <;> tm_at "k")
    (case at_law_pick => refine' L2.Hg.bd KX G ?_ ?_ ?_ ?_ <;> tm_at "k")
    (case at_law_mixed => refine' L2.Hg.bd KX G ?_ ?_ ?_ ?_ <;> tm_at "k")
    (case at_law_names => refine' L2.Hg.bd KX G ?_ ?_ ?_ ?_ <;> tm_at "k")
    (case at_law_world => refine' L2.Hg.bd KX G ?_ ?_ ?_ ?_ <;> tm_at "k")
    (case at_law_number => refine' L2.Hg.bd KX G ?_ ?_ ?_ ?_ <;> tm_at "k")
    (case at_law_any_test => refine' L2.Hg.bd KX G ?_ ?_ ?_ ?_ <;> tm_at "k")
    (case at_law_any_row => refine' L2.Hg.bd KX G ?_ ?_ ?_ ?_ <;> tm_at "k")
    (case at_law_any_rows => refine' L2.Hg.bd KX G ?_ ?_ ?_ ?_ <;> tm_at "k")
    (case at_law_wide_rows => refine' L2.Hg.bd KX G ?_ ?_ ?_ ?_ <;> tm_at "k")
    (case at_law_test_text => refine' L2.Hg.bd KX G ?_ ?_ ?_ ?_ <;> tm_at "k")
    (case at_law_lines => refine' L2.Hg.bd KX G ?_ ?_ ?_ ?_ <;> tm_at "k")
    (case at_law_whole_lines => refine' L2.Hg.bd KX G ?_ ?_ ?_ ?_ <;> tm_at "k")
    (case at_law_chooser => refine' L2.Hg.bd KX G ?_ ?_ ?_ ?_ <;> tm_at "k")
    (case at_law_drawn_house => refine' L2.Hg.bd KX G ?_ ?_ ?_ ?_ <;> tm_at "k")
    (case at_law_can_lose => refine' L2.Hg.bd KX G ?_ ?_ ?_ ?_ <;> tm_at "k")
    (case at_law_turns => refine' L2.Hg.bd KX G ?_ ?_ ?_ ?_ <;> tm_at "k")
    (case at_law_house_of => refine' L2.Hg.bd KX G ?_ ?_ ?_ ?_ <;> tm_at "k")
    (case at_law_drawn => refine' L2.Hg.bd KX G ?_ ?_ ?_ ?_ <;> tm_at "k")
    (case at_law_is_so => refine' L2.Hg.bd KX G ?_ ?_ ?_ ?_ <;> tm_at "k")
    (case at_law_ground => refine' L2.Hg.bd KX G ?_ ?_ ?_ ?_ <;> tm_at "k")
    (case at_law_do_rows => refine' L2.Hg.bd KX G ?_ ?_ ?_ ?_ <;> tm_at "k")
    (case at_law_ends => refine' L2.Hg.bd KX G ?_ ?_ ?_ ?_ <;> tm_at "k")
    (case at_law_letters => refine' L2.Hg.bd KX G ?_ ?_ ?_ ?_ <;> tm_at "k")
    (case at_law_made => refine' L2.Hg.bd KX G ?_ ?_ ?_ ?_ <;> tm_at "k")
    (case at_law_go => refine' L2.Hg.bd KX G ?_ ?_ ?_ ?_ <;> tm_at "k")
    (case at_law_history => refine' L2.Hg.bd KX G ?_ ?_ ?_ ?_ <;> tm_at "k")
    (case at_law => refine' L2.Hg.bd KX G ?_ ?_ ?_ ?_ <;> tm_at "k")
    (case at_is_integer => refine' L2.Hg.bd KX G ?_ ?_ ?_ ?_ <;> tm_at "k")
    (case at_is_from => refine' L2.Hg.bd KX G ?_ ?_ ?_ ?_ <;> tm_at "k")
    (case at_is_name => refine' L2.Hg.bd KX G ?_ ?_ ?_ ?_ <;> tm_at "k")
    (case at_need_slot => refine' L2.Hg.bd KX G ?_ ?_ ?_ ?_ <;> tm_at "k")
    (case at_need_name => refine' L2.Hg.bd KX G ?_ ?_ ?_ ?_ <;> tm_at "k")
    (case at_need_number => refine' L2.Hg.bd KX G ?_ ?_ ?_ ?_ <;> tm_at "k")
    (case at_need_test => refine' L2.Hg.bd KX G ?_ ?_ ?_ ?_ <;> tm_at "k")
    (case at_need_rows => refine' L2.Hg.bd KX G ?_ ?_ ?_ ?_ <;> tm_at "k")
    (case at_lines_of => refine' L2.Hg.bd KX G ?_ ?_ ?_ ?_ <;> tm_at "k")
    (case at_inner_rows => refine' L2.Hg.bd KX G ?_ ?_ ?_ ?_ <;> tm_at "k")
    (case at_is_note => refine' L2.Hg.bd KX G ?_ ?_ ?_ ?_ <;> tm_at "k")
    (case at_need_notes => refine' L2.Hg.bd KX G ?_ ?_ ?_ ?_ <;> tm_at "k")
    (case at_most_slots => refine' L2.Hg.bd KX G ?_ ?_ ?_ ?_ <;> tm_at "k")
    (case at_letter_of => refine' L2.Hg.bd KX G ?_ ?_ ?_ ?_ <;> tm_at "k")
    (case at_oldest_slot => refine' L2.Hg.bd KX G ?_ ?_ ?_ ?_ <;> tm_at "k")
    (case at_ground_of => refine' L2.Hg.bd KX G ?_ ?_ ?_ ?_ <;> tm_at "k")
    (case at_need_room => refine' L2.Hg.bd KX G ?_ ?_ ?_ ?_ <;> tm_at "k")
    (case at_is_turn => refine' L2.Hg.bd KX G ?_ ?_ ?_ ?_ <;> tm_at "k")
    (case at_ordered => refine' L2.Hg.bd KX G ?_ ?_ ?_ ?_ <;> tm_at "k")
    (case at_exchanged => refine' L2.Hg.bd KX G ?_ ?_ ?_ ?_ <;> tm_at "k")
    (case at_begun => refine' L2.Hg.bd KX G ?_ ?_ ?_ ?_ <;> tm_at "k")
    (case at_number_of => refine' L2.Hg.bd KX G ?_ ?_ ?_ ?_ <;> tm_at "k")
    (case at_test_of => refine' L2.Hg.bd KX G ?_ ?_ ?_ ?_ <;> tm_at "k")
    (case at_plain_test => refine' L2.Hg.bd KX G ?_ ?_ ?_ ?_ <;> tm_at "k")
    (case at_slot_test => refine' L2.Hg.bd KX G ?_ ?_ ?_ ?_ <;> tm_at "k")
    (case at_note_row => refine' L2.Hg.bd KX G ?_ ?_ ?_ ?_ <;> tm_at "k")
    (case at_slot_row => refine' L2.Hg.bd KX G ?_ ?_ ?_ ?_ <;> tm_at "k")
    (case at_row_of => refine' L2.Hg.bd KX G ?_ ?_ ?_ ?_ <;> tm_at "k")
    (case at_read_lines => refine' L2.Hg.bd KX G ?_ ?_ ?_ ?_ <;> tm_at "k")
    (case sp_fn => as_aux_lemma => kernel_rfl)
    (case sp_top => as_aux_lemma => kernel_rfl)
    (case cl => as_aux_lemma => kernel_rfl)
    (case no => as_aux_lemma => kernel_rfl)
    (case kt => as_aux_lemma => kernel_rfl)
    (case kp => as_aux_lemma => kernel_rfl)
    (case fmb => as_aux_lemma => kernel_rfl)
    (case strb => as_aux_lemma => kernel_rfl)
    (case kT => as_aux_lemma => kernel_rfl)
    (case innb => as_aux_lemma => kernel_rfl)
    (case kf => as_aux_lemma => kernel_rfl)
    (case ku => as_aux_lemma => kernel_rfl)
    (case kRR => as_aux_lemma => kernel_rfl)
    (case kTy => as_aux_lemma => kernel_rfl)
    (case kHH => as_aux_lemma => kernel_rfl)
    (case nfH => as_aux_lemma => kernel_rfl)
    (case neH => as_aux_lemma => kernel_rfl)
    (case oth => as_aux_lemma => kernel_rfl)
    (case ktH => as_aux_lemma => kernel_rfl)
    (case ntH => as_aux_lemma => kernel_rfl)
