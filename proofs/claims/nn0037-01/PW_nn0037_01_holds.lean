import PyProof.Rows.All
import Wide.All
import OpenK.AllK
import Wide.FinOn
import Lean
import PySem.Challenge.RW_nn0037_01
set_option Elab.async false
set_option linter.unusedVariables false
set_option maxRecDepth 100000
set_option maxHeartbeats 8000000
set_option compiler.extract_closed false
section
open PySem PySem.W PyProof.Rows
namespace Mine
noncomputable def topGoT (st : SharedT → Thread → Option (SharedT × Thread)) (ok : Thread → Bool) (n : Nat) : SharedT → Thread → Option SharedT :=
  @Nat.rec (fun _ => SharedT → Thread → Option SharedT) (fun _ _ => none) (fun _ ih s t => match through t with
    | true => some s
    | false => match ok t with
      | false => none
      | true => match st s t with
        | some (s', t') => ih s' t'
        | none => none) n
theorem topRun_of {tb : String → Option Builtin} {p : Program} {w : World} {n₀ : Nat} {ann : Option Value} : ∀ {n : Nat} {s s' : SharedT} {t : Thread}, topGoT (stepT (denote tb) p w) (stepOk n₀ ann) n s t = some s' → topRun tb p w n₀ ann n s.abs t = some s'.abs
  | 0, _, _, _, h => by cases h
  | n + 1, s, s', t, h => by
    change (match through t with
    | true => some s
    | false => match stepOk n₀ ann t with
      | false => none
      | true => match stepT (denote tb) p w s t with
        | some (s', t') => topGoT (stepT (denote tb) p w) (stepOk n₀ ann) n s' t'
        | none => none) = some s' at h
    unfold topRun
    cases he : through t with
    | true => rw [he] at h; cases h; rfl
    | false =>
      rw [he] at h
      cases hk : stepOk n₀ ann t with
      | false => rw [hk] at h; cases h
      | true =>
        rw [hk] at h
        cases hs : stepT (denote tb) p w s t with
        | none => rw [hs] at h; cases h
        | some r => obtain ⟨s₂, t₂⟩ := r; rw [hs] at h; rw [stepT_spec hs]; exact topRun_of h
noncomputable def bt (l : List Obj) : Nat → BT → Option BT :=
  @List.rec Obj (fun _ => Nat → BT → Option BT) (fun _ t => some t) (fun o _ ih n t => match ((t.ins n o).get n).isSome with | true => ih (n + 1) (t.ins n o) | false => none) l
theorem bt_abs {life : Life} : ∀ {l : List Obj} {n : Nat} {t t' : BT}, bt l n t = some t' → absHeap t' (n + l.length) life = ⟨(absHeap t n life).objs ++ l.toArray, life⟩
  | [], n, t, t', h => by cases h; simp [absHeap]
  | o :: r, n, t, t', h => by
    change (match ((t.ins n o).get n).isSome with | true => bt r (n + 1) (t.ins n o) | false => none) = some t' at h
    cases e : ((t.ins n o).get n).isSome with
    | false => rw [e] at h; cases h
    | true =>
      rw [e] at h
      have := bt_abs (life := life) h
      rw [absHeap_ins e] at this
      rw [show n + (o :: r).length = n + 1 + r.length by simp; omega, this]
      show Heap.mk _ _ = Heap.mk _ _
      congr 1
      show ((absHeap t n life).objs.push o) ++ _ = _
      simp
theorem left_of_tree {p q : Program} {loose : List Str} {Xt : Shared → Bool} {α : Type} {Yf : Shared → α} {Ya : World → α} {N : Nat} {H₀ : Params → Heap} {d : Drawn} {k : Nat} {m₀ : Nat} {ann : Option Value}
    (open_ : ∀ w : World, (fencedOpening treeTable p w N).map (fun s => (s.heap, s.gens, s.drawn, s.toks)) = some (H₀ w.params, Array.mk [], d, k))
    (size : ∀ w : World, ((H₀ w.params).isNs mainGlobals, (H₀ w.params).objs.toList.length, (H₀ w.params).nsMap mainGlobals "__annotations__") = (true, m₀, ann))
    (run : ∀ w : World, (fun os => (bt (H₀ w.params).objs.toList 0 .nil).bind fun T => (topGoT (stepT (denote treeTable) p w) (stepOk m₀ ann) N ⟨T, m₀, (H₀ w.params).life, Array.mk [], d, k, os⟩ (topStub p)).map fun s =>
      ((staticsOk (importedModules p.main.body) (H₀ w.params) s.abs.heap && namesBound p s.abs.heap && gensDone s.abs && laidKept (H₀ w.params) s.abs.heap), openSeen q loose (importedModules p.main.body) Xt true s.abs, Yf s.abs)) = fun _ => some (true, openGood q loose, Ya w)) : LeftO p q loose Xt Yf Ya N := fun w => by
  obtain ⟨⟨h, gs, d, k, os⟩, e, e'⟩ := Option.map_eq_some_iff.mp (open_ w)
  obtain ⟨rfl, rfl, rfl, rfl⟩ : h = H₀ w.params ∧ gs = Array.mk [] ∧ d = _ ∧ k = _ := by simpa using e'
  obtain ⟨z1, z2, z3⟩ : _ ∧ _ ∧ _ := by simpa only [Prod.mk.injEq] using size w
  obtain ⟨T, hT, l⟩ := Option.bind_eq_some_iff.mp (congrFun (run w) os)
  obtain ⟨s, hs, l⟩ := Option.map_eq_some_iff.mp l
  obtain ⟨l1, l2, l3⟩ : _ ∧ _ ∧ _ := by simpa only [Prod.mk.injEq] using l
  have r := topRun_of hs
  have a : absHeap T m₀ (H₀ w.params).life = H₀ w.params := by
    have := bt_abs (life := (H₀ w.params).life) hT
    rw [z2, Nat.zero_add] at this
    rw [this]
    show Heap.mk ((absHeap .nil 0 _).objs ++ (H₀ w.params).objs.toList.toArray) _ = _
    rw [show (absHeap .nil 0 (H₀ w.params).life).objs = #[] from rfl, Array.toArray_toList, Array.empty_append]
  have r' : topRun treeTable p w m₀ ann N ⟨H₀ w.params, Array.mk [], d, k, os⟩ (topStub p) = some s.abs := by
    rw [← r]
    show _ = topRun _ _ _ _ _ _ ⟨absHeap T m₀ (H₀ w.params).life, _, _, _, _⟩ _
    rw [a]
  have t : topFrom treeTable p w N ⟨H₀ w.params, Array.mk [], d, k, os⟩ = some s.abs := by
    unfold topFrom
    dsimp only
    rw [z1, show (H₀ w.params).objs.size = m₀ from z2, z3, r']
    show (match staticsOk (importedModules p.main.body) (H₀ w.params) s.abs.heap && namesBound p s.abs.heap && gensDone s.abs && laidKept (H₀ w.params) s.abs.heap with | true => _ | false => _) = _
    rw [l1]
  unfold openEnds
  rw [e]
  show (topFrom treeTable p w N _).map _ = _
  rw [t]
  exact congrArg some (Prod.ext l2 l3)
noncomputable def lawP : Program := PySem.Challenge.rw_nn0037_01.row.toRowW.prog
noncomputable def viewP : Program := view lawP [60]
noncomputable def looseL : List Str := [Str.ofString "GmpError", Str.ofString "DivisionByZero", Str.ofString "NoInverse", Str.ofString "OutOfRange", Str.ofString "normal", Str.ofString "is_even", Str.ofString "compare", Str.ofString "add", Str.ofString "sub", Str.ofString "lifted", Str.ofString "shift_left", Str.ofString "shift_right", Str.ofString "bits", Str.ofString "bit", Str.ofString "low", Str.ofString "trailing", Str.ofString "inverse_limb", Str.ofString "low_limbs", Str.ofString "complement", Str.ofString "inverse_low", Str.ofString "Montgomery", Str.ofString "doubled_rest", Str.ofString "mont_make", Str.ofString "add_row", Str.ofString "taken_once", Str.ofString "redc", Str.ofString "to_mont", Str.ofString "from_mont", Str.ofString "mont_mul", Str.ofString "odd_powers", Str.ofString "window_at", Str.ofString "by_windows", Str.ofString "check_modulus", Str.ofString "unit_rest", Str.ofString "mont_times", Str.ofString "low_times", Str.ofString "power_mont", Str.ofString "power_low", Str.ofString "power_any", Str.ofString "ladder", Str.ofString "two_powers", Str.ofString "window_size", Str.ofString "power_best", Str.ofString "many_products", Str.ofString "_law_row", Str.ofString "_law_number", Str.ofString "_law_mul", Str.ofString "_law_divrem", Str.ofString "_law_draw", Str.ofString "_law_size", Str.ofString "_law_box", Str.ofString "_law_power", Str.ofString "_law_refused", Str.ofString "_law_together", Str.ofString "_law_windows_right"]
noncomputable def fnParts : Stmt → Option (Arguments × List Stmt × Scope)
  | .FunctionDef _ a b _ _ _ sc _ _ _ => some (a, b, sc)
  | _ => none
noncomputable def clsBody : Stmt → List Stmt
  | .ClassDef _ _ _ b _ _ _ _ _ _ _ => b
  | _ => []
noncomputable def topDef (i : Nat) : Option (Arguments × List Stmt × Scope) := lawP.main.body[i]?.bind fnParts
noncomputable def initDef : Option (Arguments × List Stmt × Scope) := (lawP.main.body[(23 : Nat)]?.bind fun s => (clsBody s)[0]?).bind fnParts
noncomputable def fo (d : Option (Arguments × List Stmt × Scope)) (n q md : String) (t : Tok) (c : Addr) : Obj := match d with
  | some (ps, b, sc) => Obj.mk (.type "function") none (.func (FuncData.mk (Str.ofString n) (Str.ofString q) ps (.stmts b) sc 3 [] .none .none .none (.str (Str.ofString md) t) none (.ref c) .none 0)) #[]
  | none => default
noncomputable def KF : Params → Frag := fun P =>
  (nat_lit 3, Obj.mk (Value.type "dict") none (Data.dict #[DictEntry.mk (PyData.keyHash P (Str.ofString "__name__")) (Value.str (Str.ofString "__name__") 165) (Value.str (Str.ofString "law_nn0037_01") 747), DictEntry.mk (PyData.keyHash P (Str.ofString "__doc__")) (Value.str (Str.ofString "__doc__") 166) Value.none, DictEntry.mk (PyData.keyHash P (Str.ofString "__package__")) (Value.str (Str.ofString "__package__") 167) Value.none, DictEntry.mk (PyData.keyHash P (Str.ofString "__loader__")) (Value.str (Str.ofString "__loader__") 168) (Value.builtin "__main__.__loader__#opaque"), DictEntry.mk (PyData.keyHash P (Str.ofString "__spec__")) (Value.str (Str.ofString "__spec__") 169) Value.none, DictEntry.mk (PyData.keyHash P (Str.ofString "__annotations__")) (Value.str (Str.ofString "__annotations__") 170) (Value.ref 6), DictEntry.mk (PyData.keyHash P (Str.ofString "__builtins__")) (Value.str (Str.ofString "__builtins__") 171) (Value.ref 4), DictEntry.mk (PyData.keyHash P (Str.ofString "__file__")) (Value.str (Str.ofString "__file__") 173) (Value.str (Str.ofString "/claim/cut.py") 172), DictEntry.mk (PyData.keyHash P (Str.ofString "__cached__")) (Value.str (Str.ofString "__cached__") 174) Value.none, DictEntry.mk (PyData.keyHash P (Str.ofString "GmpError")) (Value.str (Str.ofString "GmpError") 208) (Value.ref 24), DictEntry.mk (PyData.keyHash P (Str.ofString "DivisionByZero")) (Value.str (Str.ofString "DivisionByZero") 224) (Value.ref 37), DictEntry.mk (PyData.keyHash P (Str.ofString "NoInverse")) (Value.str (Str.ofString "NoInverse") 240) (Value.ref 49), DictEntry.mk (PyData.keyHash P (Str.ofString "OutOfRange")) (Value.str (Str.ofString "OutOfRange") 256) (Value.ref 61), DictEntry.mk (PyData.keyHash P (Str.ofString "normal")) (Value.str (Str.ofString "normal") 264) (Value.ref 70), DictEntry.mk (PyData.keyHash P (Str.ofString "is_even")) (Value.str (Str.ofString "is_even") 271) (Value.ref 77), DictEntry.mk (PyData.keyHash P (Str.ofString "compare")) (Value.str (Str.ofString "compare") 280) (Value.ref 84), DictEntry.mk (PyData.keyHash P (Str.ofString "add")) (Value.str (Str.ofString "add") 293) (Value.ref 91), DictEntry.mk (PyData.keyHash P (Str.ofString "sub")) (Value.str (Str.ofString "sub") 307) (Value.ref 98), DictEntry.mk (PyData.keyHash P (Str.ofString "lifted")) (Value.str (Str.ofString "lifted") 315) (Value.ref 105), DictEntry.mk (PyData.keyHash P (Str.ofString "shift_left")) (Value.str (Str.ofString "shift_left") 330) (Value.ref 112), DictEntry.mk (PyData.keyHash P (Str.ofString "shift_right")) (Value.str (Str.ofString "shift_right") 345) (Value.ref 119), DictEntry.mk (PyData.keyHash P (Str.ofString "bits")) (Value.str (Str.ofString "bits") 353) (Value.ref 126), DictEntry.mk (PyData.keyHash P (Str.ofString "bit")) (Value.str (Str.ofString "bit") 362) (Value.ref 133), DictEntry.mk (PyData.keyHash P (Str.ofString "low")) (Value.str (Str.ofString "low") 373) (Value.ref 140), DictEntry.mk (PyData.keyHash P (Str.ofString "trailing")) (Value.str (Str.ofString "trailing") 383) (Value.ref 147), DictEntry.mk (PyData.keyHash P (Str.ofString "inverse_limb")) (Value.str (Str.ofString "inverse_limb") 396) (Value.ref 154), DictEntry.mk (PyData.keyHash P (Str.ofString "low_limbs")) (Value.str (Str.ofString "low_limbs") 404) (Value.ref 161), DictEntry.mk (PyData.keyHash P (Str.ofString "complement")) (Value.str (Str.ofString "complement") 410) (Value.ref 166), DictEntry.mk (PyData.keyHash P (Str.ofString "inverse_low")) (Value.str (Str.ofString "inverse_low") 424) (Value.ref 173), DictEntry.mk (PyData.keyHash P (Str.ofString "Montgomery")) (Value.str (Str.ofString "Montgomery") 461) (Value.ref 190), DictEntry.mk (PyData.keyHash P (Str.ofString "doubled_rest")) (Value.str (Str.ofString "doubled_rest") 471) (Value.ref 201), DictEntry.mk (PyData.keyHash P (Str.ofString "mont_make")) (Value.str (Str.ofString "mont_make") 482) (Value.ref 208), DictEntry.mk (PyData.keyHash P (Str.ofString "add_row")) (Value.str (Str.ofString "add_row") 496) (Value.ref 215), DictEntry.mk (PyData.keyHash P (Str.ofString "taken_once")) (Value.str (Str.ofString "taken_once") 505) (Value.ref 222), DictEntry.mk (PyData.keyHash P (Str.ofString "redc")) (Value.str (Str.ofString "redc") 519) (Value.ref 229), DictEntry.mk (PyData.keyHash P (Str.ofString "to_mont")) (Value.str (Str.ofString "to_mont") 529) (Value.ref 236), DictEntry.mk (PyData.keyHash P (Str.ofString "from_mont")) (Value.str (Str.ofString "from_mont") 538) (Value.ref 243), DictEntry.mk (PyData.keyHash P (Str.ofString "mont_mul")) (Value.str (Str.ofString "mont_mul") 549) (Value.ref 250), DictEntry.mk (PyData.keyHash P (Str.ofString "odd_powers")) (Value.str (Str.ofString "odd_powers") 563) (Value.ref 257), DictEntry.mk (PyData.keyHash P (Str.ofString "window_at")) (Value.str (Str.ofString "window_at") 576) (Value.ref 264), DictEntry.mk (PyData.keyHash P (Str.ofString "by_windows")) (Value.str (Str.ofString "by_windows") 594) (Value.ref 271), DictEntry.mk (PyData.keyHash P (Str.ofString "check_modulus")) (Value.str (Str.ofString "check_modulus") 601) (Value.ref 278), DictEntry.mk (PyData.keyHash P (Str.ofString "unit_rest")) (Value.str (Str.ofString "unit_rest") 608) (Value.ref 285), DictEntry.mk (PyData.keyHash P (Str.ofString "mont_times")) (Value.str (Str.ofString "mont_times") 621) (Value.ref 292), DictEntry.mk (PyData.keyHash P (Str.ofString "low_times")) (Value.str (Str.ofString "low_times") 634) (Value.ref 299), DictEntry.mk (PyData.keyHash P (Str.ofString "power_mont")) (Value.str (Str.ofString "power_mont") 650) (Value.ref 306), DictEntry.mk (PyData.keyHash P (Str.ofString "power_low")) (Value.str (Str.ofString "power_low") 663) (Value.ref 313), DictEntry.mk (PyData.keyHash P (Str.ofString "power_any")) (Value.str (Str.ofString "power_any") 683) (Value.ref 320), DictEntry.mk (PyData.keyHash P (Str.ofString "ladder")) (Value.str (Str.ofString "ladder") 699) (Value.ref 327), DictEntry.mk (PyData.keyHash P (Str.ofString "two_powers")) (Value.str (Str.ofString "two_powers") 719) (Value.ref 334), DictEntry.mk (PyData.keyHash P (Str.ofString "window_size")) (Value.str (Str.ofString "window_size") 727) (Value.ref 341), DictEntry.mk (PyData.keyHash P (Str.ofString "power_best")) (Value.str (Str.ofString "power_best") 740) (Value.ref 348), DictEntry.mk (PyData.keyHash P (Str.ofString "many_products")) (Value.str (Str.ofString "many_products") 746) (Value.ref 353), DictEntry.mk (PyData.keyHash P (Str.ofString "_law_row")) (Value.str (Str.ofString "_law_row") 757) (Value.ref 360), DictEntry.mk (PyData.keyHash P (Str.ofString "_law_number")) (Value.str (Str.ofString "_law_number") 767) (Value.ref 367), DictEntry.mk (PyData.keyHash P (Str.ofString "_law_mul")) (Value.str (Str.ofString "_law_mul") 776) (Value.ref 374), DictEntry.mk (PyData.keyHash P (Str.ofString "_law_divrem")) (Value.str (Str.ofString "_law_divrem") 787) (Value.ref 381), DictEntry.mk (PyData.keyHash P (Str.ofString "_law_draw")) (Value.str (Str.ofString "_law_draw") 795) (Value.ref 388), DictEntry.mk (PyData.keyHash P (Str.ofString "_law_size")) (Value.str (Str.ofString "_law_size") 806) (Value.ref 395), DictEntry.mk (PyData.keyHash P (Str.ofString "_law_box")) (Value.str (Str.ofString "_law_box") 812) (Value.ref 400), DictEntry.mk (PyData.keyHash P (Str.ofString "_law_power")) (Value.str (Str.ofString "_law_power") 823) (Value.ref 407), DictEntry.mk (PyData.keyHash P (Str.ofString "_law_refused")) (Value.str (Str.ofString "_law_refused") 830) (Value.ref 414), DictEntry.mk (PyData.keyHash P (Str.ofString "_law_together")) (Value.str (Str.ofString "_law_together") 838) (Value.ref 421), DictEntry.mk (PyData.keyHash P (Str.ofString "_law_windows_right")) (Value.str (Str.ofString "_law_windows_right") 844) (Value.ref 426), DictEntry.mk (PyData.keyHash P (Str.ofString "law")) (Value.str (Str.ofString "law") 869) (Value.ref 433)] 65) #[]) ::
  (nat_lit 15, Obj.mk (Value.type "tuple") none (Data.seq #[Value.type "Exception"]) #[]) ::
  (nat_lit 22, Obj.mk (Value.type "tuple") none (Data.seq #[]) #[]) ::
  (nat_lit 23, Obj.mk (Value.type "dict") none (Data.dict #[DictEntry.mk (PyData.keyHash P (Str.ofString "__module__")) (Value.str (Str.ofString "__module__") 196) (Value.str (Str.ofString "gmp.limbs") 187), DictEntry.mk (PyData.keyHash P (Str.ofString "__firstlineno__")) (Value.str (Str.ofString "__firstlineno__") 200) (Value.int 2 199), DictEntry.mk (PyData.keyHash P (Str.ofString "__static_attributes__")) (Value.str (Str.ofString "__static_attributes__") 201) (Value.ref 22), DictEntry.mk (PyData.keyHash P (Str.ofString "__weakref__")) (Value.str (Str.ofString "__weakref__") 203) (Value.ref 25), DictEntry.mk (PyData.keyHash P (Str.ofString "__doc__")) (Value.str (Str.ofString "__doc__") 204) Value.none] 3) #[]) ::
  (nat_lit 24, Obj.mk (Value.type "type") none (Data.cls (ClassData.mk (Str.ofString "GmpError") [Value.type "Exception"] [Value.ref 24, Value.type "Exception", Value.type "BaseException", Value.type "object"] 23 (Str.ofString "GmpError") true [] [Value.ref 37, Value.ref 49, Value.ref 61] false none false)) #[some (Value.ref 15), none, some (Value.str (Str.ofString "GmpError") 189), some (Value.str (Str.ofString "GmpError") 197), some (Value.builtin "Exception.__new__"), some (Value.bool true)]) ::
  (nat_lit 25, Obj.mk (Value.type "getset_descriptor") none (Data.fields #[Value.str (Str.ofString "__weakref__") 202, Value.ref 24, Value.builtin "ExceptionGroup.__weakref__", Value.none]) #[]) ::
  (nat_lit 28, Obj.mk (Value.type "tuple") none (Data.seq #[Value.ref 24]) #[]) ::
  (nat_lit 35, Obj.mk (Value.type "tuple") none (Data.seq #[]) #[]) ::
  (nat_lit 36, Obj.mk (Value.type "dict") none (Data.dict #[DictEntry.mk (PyData.keyHash P (Str.ofString "__module__")) (Value.str (Str.ofString "__module__") 216) (Value.str (Str.ofString "gmp.limbs") 187), DictEntry.mk (PyData.keyHash P (Str.ofString "__firstlineno__")) (Value.str (Str.ofString "__firstlineno__") 220) (Value.int 4 219), DictEntry.mk (PyData.keyHash P (Str.ofString "__static_attributes__")) (Value.str (Str.ofString "__static_attributes__") 221) (Value.ref 35), DictEntry.mk (PyData.keyHash P (Str.ofString "__doc__")) (Value.str (Str.ofString "__doc__") 222) Value.none] 2) #[]) ::
  (nat_lit 37, Obj.mk (Value.type "type") none (Data.cls (ClassData.mk (Str.ofString "DivisionByZero") [Value.ref 24] [Value.ref 37, Value.ref 24, Value.type "Exception", Value.type "BaseException", Value.type "object"] 36 (Str.ofString "DivisionByZero") true [] [] false none false)) #[some (Value.ref 28), none, some (Value.str (Str.ofString "DivisionByZero") 209), some (Value.str (Str.ofString "DivisionByZero") 217), some (Value.builtin "Exception.__new__"), some (Value.bool true)]) ::
  (nat_lit 69, Obj.mk (Value.type "code") none (Data.fields #[Value.str (Str.ofString "normal") 257, Value.str (Str.ofString "normal") 258, Value.str (Str.ofString "/claim/cut.py") 259, Value.int 10 0, Value.int 1 0, Value.int 0 0, Value.int 0 0, Value.int 3 0, Value.ref 64, Value.bool true, Value.int 181 0, Value.ref 65, Value.none, Value.ref 66, Value.ref 67, Value.ref 68, Value.int 262 0, Value.int 10 0, Value.str (Str.ofString "/claim/cut.py") 263]) #[]) ::
  (nat_lit 70, fo (topDef 5) "normal" "normal" "gmp.limbs" 187 69) ::
  (nat_lit 76, Obj.mk (Value.type "code") none (Data.fields #[Value.str (Str.ofString "is_even") 265, Value.str (Str.ofString "is_even") 266, Value.str (Str.ofString "/claim/cut.py") 267, Value.int 15 0, Value.int 1 0, Value.int 0 0, Value.int 0 0, Value.int 3 0, Value.ref 71, Value.bool true, Value.int 181 0, Value.ref 72, Value.none, Value.ref 73, Value.ref 74, Value.ref 75, Value.int 269 0, Value.int 15 0, Value.str (Str.ofString "/claim/cut.py") 270]) #[]) ::
  (nat_lit 77, fo (topDef 6) "is_even" "is_even" "gmp.limbs" 187 76) ::
  (nat_lit 83, Obj.mk (Value.type "code") none (Data.fields #[Value.str (Str.ofString "compare") 272, Value.str (Str.ofString "compare") 273, Value.str (Str.ofString "/claim/cut.py") 274, Value.int 17 0, Value.int 2 0, Value.int 0 0, Value.int 0 0, Value.int 3 0, Value.ref 78, Value.bool true, Value.int 181 0, Value.ref 79, Value.none, Value.ref 80, Value.ref 81, Value.ref 82, Value.int 278 0, Value.int 17 0, Value.str (Str.ofString "/claim/cut.py") 279]) #[]) ::
  (nat_lit 84, fo (topDef 7) "compare" "compare" "gmp.limbs" 187 83) ::
  (nat_lit 90, Obj.mk (Value.type "code") none (Data.fields #[Value.str (Str.ofString "add") 281, Value.str (Str.ofString "add") 282, Value.str (Str.ofString "/claim/cut.py") 283, Value.int 24 0, Value.int 3 0, Value.int 0 0, Value.int 0 0, Value.int 3 0, Value.ref 85, Value.bool true, Value.int 181 0, Value.ref 86, Value.none, Value.ref 87, Value.ref 88, Value.ref 89, Value.int 291 0, Value.int 24 0, Value.str (Str.ofString "/claim/cut.py") 292]) #[]) ::
  (nat_lit 91, fo (topDef 8) "add" "add" "gmp.limbs" 187 90) ::
  (nat_lit 97, Obj.mk (Value.type "code") none (Data.fields #[Value.str (Str.ofString "sub") 294, Value.str (Str.ofString "sub") 295, Value.str (Str.ofString "/claim/cut.py") 296, Value.int 39 0, Value.int 3 0, Value.int 0 0, Value.int 0 0, Value.int 3 0, Value.ref 92, Value.bool true, Value.int 181 0, Value.ref 93, Value.none, Value.ref 94, Value.ref 95, Value.ref 96, Value.int 305 0, Value.int 39 0, Value.str (Str.ofString "/claim/cut.py") 306]) #[]) ::
  (nat_lit 98, fo (topDef 9) "sub" "sub" "gmp.limbs" 187 97) ::
  (nat_lit 104, Obj.mk (Value.type "code") none (Data.fields #[Value.str (Str.ofString "lifted") 308, Value.str (Str.ofString "lifted") 309, Value.str (Str.ofString "/claim/cut.py") 310, Value.int 48 0, Value.int 2 0, Value.int 0 0, Value.int 0 0, Value.int 3 0, Value.ref 99, Value.bool true, Value.int 181 0, Value.ref 100, Value.none, Value.ref 101, Value.ref 102, Value.ref 103, Value.int 313 0, Value.int 48 0, Value.str (Str.ofString "/claim/cut.py") 314]) #[]) ::
  (nat_lit 105, fo (topDef 10) "lifted" "lifted" "gmp.limbs" 187 104) ::
  (nat_lit 111, Obj.mk (Value.type "code") none (Data.fields #[Value.str (Str.ofString "shift_left") 316, Value.str (Str.ofString "shift_left") 317, Value.str (Str.ofString "/claim/cut.py") 318, Value.int 50 0, Value.int 3 0, Value.int 0 0, Value.int 0 0, Value.int 3 0, Value.ref 106, Value.bool true, Value.int 181 0, Value.ref 107, Value.none, Value.ref 108, Value.ref 109, Value.ref 110, Value.int 328 0, Value.int 50 0, Value.str (Str.ofString "/claim/cut.py") 329]) #[]) ::
  (nat_lit 112, fo (topDef 11) "shift_left" "shift_left" "gmp.limbs" 187 111) ::
  (nat_lit 118, Obj.mk (Value.type "code") none (Data.fields #[Value.str (Str.ofString "shift_right") 331, Value.str (Str.ofString "shift_right") 332, Value.str (Str.ofString "/claim/cut.py") 333, Value.int 62 0, Value.int 3 0, Value.int 0 0, Value.int 0 0, Value.int 3 0, Value.ref 113, Value.bool true, Value.int 181 0, Value.ref 114, Value.none, Value.ref 115, Value.ref 116, Value.ref 117, Value.int 343 0, Value.int 62 0, Value.str (Str.ofString "/claim/cut.py") 344]) #[]) ::
  (nat_lit 119, fo (topDef 12) "shift_right" "shift_right" "gmp.limbs" 187 118) ::
  (nat_lit 125, Obj.mk (Value.type "code") none (Data.fields #[Value.str (Str.ofString "bits") 346, Value.str (Str.ofString "bits") 347, Value.str (Str.ofString "/claim/cut.py") 348, Value.int 69 0, Value.int 2 0, Value.int 0 0, Value.int 0 0, Value.int 3 0, Value.ref 120, Value.bool true, Value.int 181 0, Value.ref 121, Value.none, Value.ref 122, Value.ref 123, Value.ref 124, Value.int 351 0, Value.int 69 0, Value.str (Str.ofString "/claim/cut.py") 352]) #[]) ::
  (nat_lit 126, fo (topDef 13) "bits" "bits" "gmp.limbs" 187 125) ::
  (nat_lit 132, Obj.mk (Value.type "code") none (Data.fields #[Value.str (Str.ofString "bit") 354, Value.str (Str.ofString "bit") 355, Value.str (Str.ofString "/claim/cut.py") 356, Value.int 71 0, Value.int 3 0, Value.int 0 0, Value.int 0 0, Value.int 3 0, Value.ref 127, Value.bool true, Value.int 181 0, Value.ref 128, Value.none, Value.ref 129, Value.ref 130, Value.ref 131, Value.int 360 0, Value.int 71 0, Value.str (Str.ofString "/claim/cut.py") 361]) #[]) ::
  (nat_lit 133, fo (topDef 14) "bit" "bit" "gmp.limbs" 187 132) ::
  (nat_lit 139, Obj.mk (Value.type "code") none (Data.fields #[Value.str (Str.ofString "low") 363, Value.str (Str.ofString "low") 364, Value.str (Str.ofString "/claim/cut.py") 365, Value.int 73 0, Value.int 3 0, Value.int 0 0, Value.int 0 0, Value.int 3 0, Value.ref 134, Value.bool true, Value.int 181 0, Value.ref 135, Value.none, Value.ref 136, Value.ref 137, Value.ref 138, Value.int 371 0, Value.int 73 0, Value.str (Str.ofString "/claim/cut.py") 372]) #[]) ::
  (nat_lit 140, fo (topDef 15) "low" "low" "gmp.limbs" 187 139) ::
  (nat_lit 146, Obj.mk (Value.type "code") none (Data.fields #[Value.str (Str.ofString "trailing") 374, Value.str (Str.ofString "trailing") 375, Value.str (Str.ofString "/claim/cut.py") 376, Value.int 78 0, Value.int 2 0, Value.int 0 0, Value.int 0 0, Value.int 3 0, Value.ref 141, Value.bool true, Value.int 181 0, Value.ref 142, Value.none, Value.ref 143, Value.ref 144, Value.ref 145, Value.int 381 0, Value.int 78 0, Value.str (Str.ofString "/claim/cut.py") 382]) #[]) ::
  (nat_lit 147, fo (topDef 16) "trailing" "trailing" "gmp.limbs" 187 146) ::
  (nat_lit 153, Obj.mk (Value.type "code") none (Data.fields #[Value.str (Str.ofString "inverse_limb") 386, Value.str (Str.ofString "inverse_limb") 387, Value.str (Str.ofString "/claim/cut.py") 388, Value.int 84 0, Value.int 2 0, Value.int 0 0, Value.int 0 0, Value.int 3 0, Value.ref 148, Value.bool true, Value.int 181 0, Value.ref 149, Value.none, Value.ref 150, Value.ref 151, Value.ref 152, Value.int 394 0, Value.int 84 0, Value.str (Str.ofString "/claim/cut.py") 395]) #[]) ::
  (nat_lit 154, fo (topDef 18) "inverse_limb" "inverse_limb" "gmp.hensel" 384 153) ::
  (nat_lit 160, Obj.mk (Value.type "code") none (Data.fields #[Value.str (Str.ofString "low_limbs") 397, Value.str (Str.ofString "low_limbs") 398, Value.str (Str.ofString "/claim/cut.py") 399, Value.int 93 0, Value.int 2 0, Value.int 0 0, Value.int 0 0, Value.int 3 0, Value.ref 155, Value.bool true, Value.int 181 0, Value.ref 156, Value.none, Value.ref 157, Value.ref 158, Value.ref 159, Value.int 402 0, Value.int 93 0, Value.str (Str.ofString "/claim/cut.py") 403]) #[]) ::
  (nat_lit 161, fo (topDef 19) "low_limbs" "low_limbs" "gmp.hensel" 384 160) ::
  (nat_lit 165, Obj.mk (Value.type "code") none (Data.fields #[Value.str (Str.ofString "complement") 405, Value.str (Str.ofString "complement") 406, Value.str (Str.ofString "/claim/cut.py") 407, Value.int 95 0, Value.int 3 0, Value.int 0 0, Value.int 0 0, Value.int 3 0, Value.ref 162, Value.bool true, Value.int 181 0, Value.ref 163, Value.none, Value.none, Value.none, Value.ref 164, Value.int 408 0, Value.int 95 0, Value.str (Str.ofString "/claim/cut.py") 409]) #[]) ::
  (nat_lit 166, fo (topDef 20) "complement" "complement" "gmp.hensel" 384 165) ::
  (nat_lit 172, Obj.mk (Value.type "code") none (Data.fields #[Value.str (Str.ofString "inverse_low") 411, Value.str (Str.ofString "inverse_low") 412, Value.str (Str.ofString "/claim/cut.py") 413, Value.int 99 0, Value.int 4 0, Value.int 0 0, Value.int 0 0, Value.int 3 0, Value.ref 167, Value.bool true, Value.int 181 0, Value.ref 168, Value.none, Value.ref 169, Value.ref 170, Value.ref 171, Value.int 422 0, Value.int 99 0, Value.str (Str.ofString "/claim/cut.py") 423]) #[]) ::
  (nat_lit 173, fo (topDef 21) "inverse_low" "inverse_low" "gmp.hensel" 384 172) ::
  (nat_lit 186, Obj.mk (Value.type "code") none (Data.fields #[Value.str (Str.ofString "__init__") 439, Value.str (Str.ofString "Montgomery.__init__") 440, Value.str (Str.ofString "/claim/cut.py") 441, Value.int 114 0, Value.int 5 0, Value.int 0 0, Value.int 0 0, Value.int 3 0, Value.ref 181, Value.bool true, Value.int 181 0, Value.ref 182, Value.none, Value.ref 183, Value.ref 184, Value.ref 185, Value.int 447 0, Value.int 114 0, Value.str (Str.ofString "/claim/cut.py") 448]) #[]) ::
  (nat_lit 187, fo initDef "__init__" "Montgomery.__init__" "gmp.reduce" 425 186) ::
  (nat_lit 188, Obj.mk (Value.type "tuple") none (Data.seq #[Value.str (Str.ofString "minus") 450, Value.str (Str.ofString "modulus") 451, Value.str (Str.ofString "one") 452, Value.str (Str.ofString "square") 453]) #[]) ::
  (nat_lit 189, Obj.mk (Value.type "dict") none (Data.dict #[DictEntry.mk (PyData.keyHash P (Str.ofString "__module__")) (Value.str (Str.ofString "__module__") 434) (Value.str (Str.ofString "gmp.reduce") 425), DictEntry.mk (PyData.keyHash P (Str.ofString "__firstlineno__")) (Value.str (Str.ofString "__firstlineno__") 438) (Value.int 112 437), DictEntry.mk (PyData.keyHash P (Str.ofString "__init__")) (Value.str (Str.ofString "__init__") 449) (Value.ref 187), DictEntry.mk (PyData.keyHash P (Str.ofString "__static_attributes__")) (Value.str (Str.ofString "__static_attributes__") 454) (Value.ref 188), DictEntry.mk (PyData.keyHash P (Str.ofString "__dict__")) (Value.str (Str.ofString "__dict__") 456) (Value.ref 191), DictEntry.mk (PyData.keyHash P (Str.ofString "__weakref__")) (Value.str (Str.ofString "__weakref__") 458) (Value.ref 192), DictEntry.mk (PyData.keyHash P (Str.ofString "__doc__")) (Value.str (Str.ofString "__doc__") 459) Value.none] 4) #[]) ::
  (nat_lit 190, Obj.mk (Value.type "type") none (Data.cls (ClassData.mk (Str.ofString "Montgomery") [Value.type "object"] [Value.ref 190, Value.type "object"] 189 (Str.ofString "Montgomery") true [] [] false none false)) #[none, none, some (Value.str (Str.ofString "Montgomery") 427), some (Value.str (Str.ofString "Montgomery") 435), some (Value.builtin "object.__new__"), some (Value.bool true)]) ::
  (nat_lit 191, Obj.mk (Value.type "getset_descriptor") none (Data.fields #[Value.str (Str.ofString "__dict__") 455, Value.ref 190, Value.builtin "function.__dict__", Value.builtin "function.__dict__#set"]) #[]) ::
  (nat_lit 192, Obj.mk (Value.type "getset_descriptor") none (Data.fields #[Value.str (Str.ofString "__weakref__") 457, Value.ref 190, Value.builtin "ExceptionGroup.__weakref__", Value.none]) #[]) ::
  (nat_lit 200, Obj.mk (Value.type "code") none (Data.fields #[Value.str (Str.ofString "doubled_rest") 462, Value.str (Str.ofString "doubled_rest") 463, Value.str (Str.ofString "/claim/cut.py") 464, Value.int 119 0, Value.int 3 0, Value.int 0 0, Value.int 0 0, Value.int 3 0, Value.ref 195, Value.bool true, Value.int 181 0, Value.ref 196, Value.none, Value.ref 197, Value.ref 198, Value.ref 199, Value.int 469 0, Value.int 119 0, Value.str (Str.ofString "/claim/cut.py") 470]) #[]) ::
  (nat_lit 201, fo (topDef 24) "doubled_rest" "doubled_rest" "gmp.reduce" 425 200) ::
  (nat_lit 207, Obj.mk (Value.type "code") none (Data.fields #[Value.str (Str.ofString "mont_make") 472, Value.str (Str.ofString "mont_make") 473, Value.str (Str.ofString "/claim/cut.py") 474, Value.int 122 0, Value.int 2 0, Value.int 0 0, Value.int 0 0, Value.int 3 0, Value.ref 202, Value.bool true, Value.int 181 0, Value.ref 203, Value.none, Value.ref 204, Value.ref 205, Value.ref 206, Value.int 480 0, Value.int 122 0, Value.str (Str.ofString "/claim/cut.py") 481]) #[]) ::
  (nat_lit 208, fo (topDef 25) "mont_make" "mont_make" "gmp.reduce" 425 207) ::
  (nat_lit 214, Obj.mk (Value.type "code") none (Data.fields #[Value.str (Str.ofString "add_row") 483, Value.str (Str.ofString "add_row") 484, Value.str (Str.ofString "/claim/cut.py") 485, Value.int 132 0, Value.int 5 0, Value.int 0 0, Value.int 0 0, Value.int 3 0, Value.ref 209, Value.bool true, Value.int 181 0, Value.ref 210, Value.none, Value.ref 211, Value.ref 212, Value.ref 213, Value.int 494 0, Value.int 132 0, Value.str (Str.ofString "/claim/cut.py") 495]) #[]) ::
  (nat_lit 215, fo (topDef 26) "add_row" "add_row" "gmp.reduce" 425 214) ::
  (nat_lit 221, Obj.mk (Value.type "code") none (Data.fields #[Value.str (Str.ofString "taken_once") 497, Value.str (Str.ofString "taken_once") 498, Value.str (Str.ofString "/claim/cut.py") 499, Value.int 144 0, Value.int 3 0, Value.int 0 0, Value.int 0 0, Value.int 3 0, Value.ref 216, Value.bool true, Value.int 181 0, Value.ref 217, Value.none, Value.ref 218, Value.ref 219, Value.ref 220, Value.int 503 0, Value.int 144 0, Value.str (Str.ofString "/claim/cut.py") 504]) #[]) ::
  (nat_lit 222, fo (topDef 27) "taken_once" "taken_once" "gmp.reduce" 425 221) ::
  (nat_lit 228, Obj.mk (Value.type "code") none (Data.fields #[Value.str (Str.ofString "redc") 506, Value.str (Str.ofString "redc") 507, Value.str (Str.ofString "/claim/cut.py") 508, Value.int 146 0, Value.int 3 0, Value.int 0 0, Value.int 0 0, Value.int 3 0, Value.ref 223, Value.bool true, Value.int 181 0, Value.ref 224, Value.none, Value.ref 225, Value.ref 226, Value.ref 227, Value.int 517 0, Value.int 146 0, Value.str (Str.ofString "/claim/cut.py") 518]) #[]) ::
  (nat_lit 229, fo (topDef 28) "redc" "redc" "gmp.reduce" 425 228) ::
  (nat_lit 235, Obj.mk (Value.type "code") none (Data.fields #[Value.str (Str.ofString "to_mont") 520, Value.str (Str.ofString "to_mont") 521, Value.str (Str.ofString "/claim/cut.py") 522, Value.int 155 0, Value.int 4 0, Value.int 0 0, Value.int 0 0, Value.int 3 0, Value.ref 230, Value.bool true, Value.int 181 0, Value.ref 231, Value.none, Value.ref 232, Value.ref 233, Value.ref 234, Value.int 527 0, Value.int 155 0, Value.str (Str.ofString "/claim/cut.py") 528]) #[]) ::
  (nat_lit 236, fo (topDef 29) "to_mont" "to_mont" "gmp.reduce" 425 235) ::
  (nat_lit 242, Obj.mk (Value.type "code") none (Data.fields #[Value.str (Str.ofString "from_mont") 530, Value.str (Str.ofString "from_mont") 531, Value.str (Str.ofString "/claim/cut.py") 532, Value.int 159 0, Value.int 3 0, Value.int 0 0, Value.int 0 0, Value.int 3 0, Value.ref 237, Value.bool true, Value.int 181 0, Value.ref 238, Value.none, Value.ref 239, Value.ref 240, Value.ref 241, Value.int 536 0, Value.int 159 0, Value.str (Str.ofString "/claim/cut.py") 537]) #[]) ::
  (nat_lit 243, fo (topDef 30) "from_mont" "from_mont" "gmp.reduce" 425 242) ::
  (nat_lit 249, Obj.mk (Value.type "code") none (Data.fields #[Value.str (Str.ofString "mont_mul") 539, Value.str (Str.ofString "mont_mul") 540, Value.str (Str.ofString "/claim/cut.py") 541, Value.int 161 0, Value.int 5 0, Value.int 0 0, Value.int 0 0, Value.int 3 0, Value.ref 244, Value.bool true, Value.int 181 0, Value.ref 245, Value.none, Value.ref 246, Value.ref 247, Value.ref 248, Value.int 547 0, Value.int 161 0, Value.str (Str.ofString "/claim/cut.py") 548]) #[]) ::
  (nat_lit 250, fo (topDef 31) "mont_mul" "mont_mul" "gmp.reduce" 425 249) ::
  (nat_lit 256, Obj.mk (Value.type "code") none (Data.fields #[Value.str (Str.ofString "odd_powers") 552, Value.str (Str.ofString "odd_powers") 553, Value.str (Str.ofString "/claim/cut.py") 554, Value.int 164 0, Value.int 3 0, Value.int 0 0, Value.int 0 0, Value.int 3 0, Value.ref 251, Value.bool true, Value.int 181 0, Value.ref 252, Value.none, Value.ref 253, Value.ref 254, Value.ref 255, Value.int 561 0, Value.int 164 0, Value.str (Str.ofString "/claim/cut.py") 562]) #[]) ::
  (nat_lit 257, fo (topDef 33) "odd_powers" "odd_powers" "gmp.powers" 550 256) ::
  (nat_lit 263, Obj.mk (Value.type "code") none (Data.fields #[Value.str (Str.ofString "window_at") 564, Value.str (Str.ofString "window_at") 565, Value.str (Str.ofString "/claim/cut.py") 566, Value.int 169 0, Value.int 4 0, Value.int 0 0, Value.int 0 0, Value.int 3 0, Value.ref 258, Value.bool true, Value.int 181 0, Value.ref 259, Value.none, Value.ref 260, Value.ref 261, Value.ref 262, Value.int 574 0, Value.int 169 0, Value.str (Str.ofString "/claim/cut.py") 575]) #[]) ::
  (nat_lit 264, fo (topDef 34) "window_at" "window_at" "gmp.powers" 550 263) ::
  (nat_lit 270, Obj.mk (Value.type "code") none (Data.fields #[Value.str (Str.ofString "by_windows") 577, Value.str (Str.ofString "by_windows") 578, Value.str (Str.ofString "/claim/cut.py") 579, Value.int 177 0, Value.int 6 0, Value.int 0 0, Value.int 0 0, Value.int 3 0, Value.ref 265, Value.bool true, Value.int 181 0, Value.ref 266, Value.none, Value.ref 267, Value.ref 268, Value.ref 269, Value.int 592 0, Value.int 177 0, Value.str (Str.ofString "/claim/cut.py") 593]) #[]) ::
  (nat_lit 271, fo (topDef 35) "by_windows" "by_windows" "gmp.powers" 550 270) ::
  (nat_lit 277, Obj.mk (Value.type "code") none (Data.fields #[Value.str (Str.ofString "check_modulus") 595, Value.str (Str.ofString "check_modulus") 596, Value.str (Str.ofString "/claim/cut.py") 597, Value.int 196 0, Value.int 1 0, Value.int 0 0, Value.int 0 0, Value.int 3 0, Value.ref 272, Value.bool true, Value.int 181 0, Value.ref 273, Value.none, Value.ref 274, Value.ref 275, Value.ref 276, Value.int 599 0, Value.int 196 0, Value.str (Str.ofString "/claim/cut.py") 600]) #[]) ::
  (nat_lit 278, fo (topDef 36) "check_modulus" "check_modulus" "gmp.powers" 550 277) ::
  (nat_lit 284, Obj.mk (Value.type "code") none (Data.fields #[Value.str (Str.ofString "unit_rest") 602, Value.str (Str.ofString "unit_rest") 603, Value.str (Str.ofString "/claim/cut.py") 604, Value.int 199 0, Value.int 1 0, Value.int 0 0, Value.int 0 0, Value.int 3 0, Value.ref 279, Value.bool true, Value.int 181 0, Value.ref 280, Value.none, Value.ref 281, Value.ref 282, Value.ref 283, Value.int 606 0, Value.int 199 0, Value.str (Str.ofString "/claim/cut.py") 607]) #[]) ::
  (nat_lit 285, fo (topDef 37) "unit_rest" "unit_rest" "gmp.powers" 550 284) ::
  (nat_lit 291, Obj.mk (Value.type "code") none (Data.fields #[Value.str (Str.ofString "mont_times") 609, Value.str (Str.ofString "mont_times") 610, Value.str (Str.ofString "/claim/cut.py") 611, Value.int 201 0, Value.int 3 0, Value.int 0 0, Value.int 0 0, Value.int 3 0, Value.ref 286, Value.bool true, Value.int 181 0, Value.ref 287, Value.none, Value.ref 288, Value.ref 289, Value.ref 290, Value.int 619 0, Value.int 201 0, Value.str (Str.ofString "/claim/cut.py") 620]) #[]) ::
  (nat_lit 292, fo (topDef 38) "mont_times" "mont_times" "gmp.powers" 550 291) ::
  (nat_lit 298, Obj.mk (Value.type "code") none (Data.fields #[Value.str (Str.ofString "low_times") 622, Value.str (Str.ofString "low_times") 623, Value.str (Str.ofString "/claim/cut.py") 624, Value.int 206 0, Value.int 3 0, Value.int 0 0, Value.int 0 0, Value.int 3 0, Value.ref 293, Value.bool true, Value.int 181 0, Value.ref 294, Value.none, Value.ref 295, Value.ref 296, Value.ref 297, Value.int 632 0, Value.int 206 0, Value.str (Str.ofString "/claim/cut.py") 633]) #[]) ::
  (nat_lit 299, fo (topDef 39) "low_times" "low_times" "gmp.powers" 550 298) ::
  (nat_lit 305, Obj.mk (Value.type "code") none (Data.fields #[Value.str (Str.ofString "power_mont") 635, Value.str (Str.ofString "power_mont") 636, Value.str (Str.ofString "/claim/cut.py") 637, Value.int 211 0, Value.int 7 0, Value.int 0 0, Value.int 0 0, Value.int 3 0, Value.ref 300, Value.bool true, Value.int 181 0, Value.ref 301, Value.none, Value.ref 302, Value.ref 303, Value.ref 304, Value.int 648 0, Value.int 211 0, Value.str (Str.ofString "/claim/cut.py") 649]) #[]) ::
  (nat_lit 306, fo (topDef 40) "power_mont" "power_mont" "gmp.powers" 550 305) ::
  (nat_lit 312, Obj.mk (Value.type "code") none (Data.fields #[Value.str (Str.ofString "power_low") 651, Value.str (Str.ofString "power_low") 652, Value.str (Str.ofString "/claim/cut.py") 653, Value.int 216 0, Value.int 6 0, Value.int 0 0, Value.int 0 0, Value.int 3 0, Value.ref 307, Value.bool true, Value.int 181 0, Value.ref 308, Value.none, Value.ref 309, Value.ref 310, Value.ref 311, Value.int 661 0, Value.int 216 0, Value.str (Str.ofString "/claim/cut.py") 662]) #[]) ::
  (nat_lit 313, fo (topDef 41) "power_low" "power_low" "gmp.powers" 550 312) ::
  (nat_lit 319, Obj.mk (Value.type "code") none (Data.fields #[Value.str (Str.ofString "power_any") 664, Value.str (Str.ofString "power_any") 665, Value.str (Str.ofString "/claim/cut.py") 666, Value.int 219 0, Value.int 7 0, Value.int 0 0, Value.int 0 0, Value.int 3 0, Value.ref 314, Value.bool true, Value.int 181 0, Value.ref 315, Value.none, Value.ref 316, Value.ref 317, Value.ref 318, Value.int 681 0, Value.int 219 0, Value.str (Str.ofString "/claim/cut.py") 682]) #[]) ::
  (nat_lit 320, fo (topDef 42) "power_any" "power_any" "gmp.powers" 550 319) ::
  (nat_lit 326, Obj.mk (Value.type "code") none (Data.fields #[Value.str (Str.ofString "ladder") 684, Value.str (Str.ofString "ladder") 685, Value.str (Str.ofString "/claim/cut.py") 686, Value.int 231 0, Value.int 6 0, Value.int 0 0, Value.int 0 0, Value.int 3 0, Value.ref 321, Value.bool true, Value.int 181 0, Value.ref 322, Value.none, Value.ref 323, Value.ref 324, Value.ref 325, Value.int 697 0, Value.int 231 0, Value.str (Str.ofString "/claim/cut.py") 698]) #[]) ::
  (nat_lit 327, fo (topDef 43) "ladder" "ladder" "gmp.powers" 550 326) ::
  (nat_lit 333, Obj.mk (Value.type "code") none (Data.fields #[Value.str (Str.ofString "two_powers") 700, Value.str (Str.ofString "two_powers") 701, Value.str (Str.ofString "/claim/cut.py") 702, Value.int 241 0, Value.int 8 0, Value.int 0 0, Value.int 0 0, Value.int 3 0, Value.ref 328, Value.bool true, Value.int 181 0, Value.ref 329, Value.none, Value.ref 330, Value.ref 331, Value.ref 332, Value.int 717 0, Value.int 241 0, Value.str (Str.ofString "/claim/cut.py") 718]) #[]) ::
  (nat_lit 334, fo (topDef 44) "two_powers" "two_powers" "gmp.powers" 550 333) ::
  (nat_lit 340, Obj.mk (Value.type "code") none (Data.fields #[Value.str (Str.ofString "window_size") 720, Value.str (Str.ofString "window_size") 721, Value.str (Str.ofString "/claim/cut.py") 722, Value.int 252 0, Value.int 1 0, Value.int 0 0, Value.int 0 0, Value.int 3 0, Value.ref 335, Value.bool true, Value.int 181 0, Value.ref 336, Value.none, Value.ref 337, Value.ref 338, Value.ref 339, Value.int 725 0, Value.int 252 0, Value.str (Str.ofString "/claim/cut.py") 726]) #[]) ::
  (nat_lit 341, fo (topDef 45) "window_size" "window_size" "gmp.powers" 550 340) ::
  (nat_lit 347, Obj.mk (Value.type "code") none (Data.fields #[Value.str (Str.ofString "power_best") 728, Value.str (Str.ofString "power_best") 729, Value.str (Str.ofString "/claim/cut.py") 730, Value.int 257 0, Value.int 6 0, Value.int 0 0, Value.int 0 0, Value.int 3 0, Value.ref 342, Value.bool true, Value.int 181 0, Value.ref 343, Value.none, Value.ref 344, Value.ref 345, Value.ref 346, Value.int 738 0, Value.int 257 0, Value.str (Str.ofString "/claim/cut.py") 739]) #[]) ::
  (nat_lit 348, fo (topDef 46) "power_best" "power_best" "gmp.powers" 550 347) ::
  (nat_lit 352, Obj.mk (Value.type "code") none (Data.fields #[Value.str (Str.ofString "many_products") 741, Value.str (Str.ofString "many_products") 742, Value.str (Str.ofString "/claim/cut.py") 743, Value.int 262 0, Value.int 6 0, Value.int 0 0, Value.int 0 0, Value.int 3 0, Value.ref 349, Value.bool true, Value.int 181 0, Value.ref 350, Value.none, Value.none, Value.none, Value.ref 351, Value.int 744 0, Value.int 262 0, Value.str (Str.ofString "/claim/cut.py") 745]) #[]) ::
  (nat_lit 353, fo (topDef 47) "many_products" "many_products" "gmp.powers" 550 352) ::
  (nat_lit 359, Obj.mk (Value.type "code") none (Data.fields #[Value.str (Str.ofString "_law_row") 749, Value.str (Str.ofString "_law_row") 750, Value.str (Str.ofString "/claim/cut.py") 751, Value.int 275 0, Value.int 2 0, Value.int 0 0, Value.int 0 0, Value.int 3 0, Value.ref 354, Value.bool true, Value.int 181 0, Value.ref 355, Value.none, Value.ref 356, Value.ref 357, Value.ref 358, Value.int 755 0, Value.int 275 0, Value.str (Str.ofString "/claim/cut.py") 756]) #[]) ::
  (nat_lit 360, fo (topDef 49) "_law_row" "_law_row" "law_nn0037_01" 747 359) ::
  (nat_lit 366, Obj.mk (Value.type "code") none (Data.fields #[Value.str (Str.ofString "_law_number") 758, Value.str (Str.ofString "_law_number") 759, Value.str (Str.ofString "/claim/cut.py") 760, Value.int 281 0, Value.int 2 0, Value.int 0 0, Value.int 0 0, Value.int 3 0, Value.ref 361, Value.bool true, Value.int 181 0, Value.ref 362, Value.none, Value.ref 363, Value.ref 364, Value.ref 365, Value.int 765 0, Value.int 281 0, Value.str (Str.ofString "/claim/cut.py") 766]) #[]) ::
  (nat_lit 367, fo (topDef 50) "_law_number" "_law_number" "law_nn0037_01" 747 366) ::
  (nat_lit 373, Obj.mk (Value.type "code") none (Data.fields #[Value.str (Str.ofString "_law_mul") 768, Value.str (Str.ofString "_law_mul") 769, Value.str (Str.ofString "/claim/cut.py") 770, Value.int 286 0, Value.int 3 0, Value.int 0 0, Value.int 0 0, Value.int 3 0, Value.ref 368, Value.bool true, Value.int 181 0, Value.ref 369, Value.none, Value.ref 370, Value.ref 371, Value.ref 372, Value.int 774 0, Value.int 286 0, Value.str (Str.ofString "/claim/cut.py") 775]) #[]) ::
  (nat_lit 374, fo (topDef 51) "_law_mul" "_law_mul" "law_nn0037_01" 747 373) ::
  (nat_lit 380, Obj.mk (Value.type "code") none (Data.fields #[Value.str (Str.ofString "_law_divrem") 777, Value.str (Str.ofString "_law_divrem") 778, Value.str (Str.ofString "/claim/cut.py") 779, Value.int 288 0, Value.int 3 0, Value.int 0 0, Value.int 0 0, Value.int 3 0, Value.ref 375, Value.bool true, Value.int 181 0, Value.ref 376, Value.none, Value.ref 377, Value.ref 378, Value.ref 379, Value.int 785 0, Value.int 288 0, Value.str (Str.ofString "/claim/cut.py") 786]) #[]) ::
  (nat_lit 381, fo (topDef 52) "_law_divrem" "_law_divrem" "law_nn0037_01" 747 380) ::
  (nat_lit 387, Obj.mk (Value.type "code") none (Data.fields #[Value.str (Str.ofString "_law_draw") 788, Value.str (Str.ofString "_law_draw") 789, Value.str (Str.ofString "/claim/cut.py") 790, Value.int 291 0, Value.int 2 0, Value.int 0 0, Value.int 0 0, Value.int 3 0, Value.ref 382, Value.bool true, Value.int 181 0, Value.ref 383, Value.none, Value.ref 384, Value.ref 385, Value.ref 386, Value.int 793 0, Value.int 291 0, Value.str (Str.ofString "/claim/cut.py") 794]) #[]) ::
  (nat_lit 388, fo (topDef 53) "_law_draw" "_law_draw" "law_nn0037_01" 747 387) ::
  (nat_lit 394, Obj.mk (Value.type "code") none (Data.fields #[Value.str (Str.ofString "_law_size") 796, Value.str (Str.ofString "_law_size") 797, Value.str (Str.ofString "/claim/cut.py") 798, Value.int 297 0, Value.int 3 0, Value.int 0 0, Value.int 0 0, Value.int 3 0, Value.ref 389, Value.bool true, Value.int 181 0, Value.ref 390, Value.none, Value.ref 391, Value.ref 392, Value.ref 393, Value.int 804 0, Value.int 297 0, Value.str (Str.ofString "/claim/cut.py") 805]) #[]) ::
  (nat_lit 395, fo (topDef 54) "_law_size" "_law_size" "law_nn0037_01" 747 394) ::
  (nat_lit 399, Obj.mk (Value.type "code") none (Data.fields #[Value.str (Str.ofString "_law_box") 807, Value.str (Str.ofString "_law_box") 808, Value.str (Str.ofString "/claim/cut.py") 809, Value.int 305 0, Value.int 2 0, Value.int 0 0, Value.int 0 0, Value.int 3 0, Value.ref 396, Value.bool true, Value.int 181 0, Value.ref 397, Value.none, Value.none, Value.none, Value.ref 398, Value.int 810 0, Value.int 305 0, Value.str (Str.ofString "/claim/cut.py") 811]) #[]) ::
  (nat_lit 400, fo (topDef 55) "_law_box" "_law_box" "law_nn0037_01" 747 399) ::
  (nat_lit 406, Obj.mk (Value.type "code") none (Data.fields #[Value.str (Str.ofString "_law_power") 813, Value.str (Str.ofString "_law_power") 814, Value.str (Str.ofString "/claim/cut.py") 815, Value.int 310 0, Value.int 3 0, Value.int 0 0, Value.int 0 0, Value.int 3 0, Value.ref 401, Value.bool true, Value.int 181 0, Value.ref 402, Value.none, Value.ref 403, Value.ref 404, Value.ref 405, Value.int 821 0, Value.int 310 0, Value.str (Str.ofString "/claim/cut.py") 822]) #[]) ::
  (nat_lit 407, fo (topDef 56) "_law_power" "_law_power" "law_nn0037_01" 747 406) ::
  (nat_lit 413, Obj.mk (Value.type "code") none (Data.fields #[Value.str (Str.ofString "_law_refused") 824, Value.str (Str.ofString "_law_refused") 825, Value.str (Str.ofString "/claim/cut.py") 826, Value.int 317 0, Value.int 1 0, Value.int 0 0, Value.int 0 0, Value.int 3 0, Value.ref 408, Value.bool true, Value.int 181 0, Value.ref 409, Value.none, Value.ref 410, Value.ref 411, Value.ref 412, Value.int 828 0, Value.int 317 0, Value.str (Str.ofString "/claim/cut.py") 829]) #[]) ::
  (nat_lit 414, fo (topDef 57) "_law_refused" "_law_refused" "law_nn0037_01" 747 413) ::
  (nat_lit 420, Obj.mk (Value.type "code") none (Data.fields #[Value.str (Str.ofString "_law_together") 831, Value.str (Str.ofString "_law_together") 832, Value.str (Str.ofString "/claim/cut.py") 833, Value.int 323 0, Value.int 2 0, Value.int 0 0, Value.int 0 0, Value.int 3 0, Value.ref 415, Value.bool true, Value.int 181 0, Value.ref 416, Value.none, Value.ref 417, Value.ref 418, Value.ref 419, Value.int 836 0, Value.int 323 0, Value.str (Str.ofString "/claim/cut.py") 837]) #[]) ::
  (nat_lit 421, fo (topDef 58) "_law_together" "_law_together" "law_nn0037_01" 747 420) ::
  (nat_lit 425, Obj.mk (Value.type "code") none (Data.fields #[Value.str (Str.ofString "_law_windows_right") 839, Value.str (Str.ofString "_law_windows_right") 840, Value.str (Str.ofString "/claim/cut.py") 841, Value.int 325 0, Value.int 3 0, Value.int 0 0, Value.int 0 0, Value.int 3 0, Value.ref 422, Value.bool true, Value.int 181 0, Value.ref 423, Value.none, Value.none, Value.none, Value.ref 424, Value.int 842 0, Value.int 325 0, Value.str (Str.ofString "/claim/cut.py") 843]) #[]) ::
  (nat_lit 426, fo (topDef 59) "_law_windows_right" "_law_windows_right" "law_nn0037_01" 747 425) ::
  (nat_lit 432, Obj.mk (Value.type "code") none (Data.fields #[Value.str (Str.ofString "law") 845, Value.str (Str.ofString "law") 846, Value.str (Str.ofString "/claim/cut.py") 847, Value.int 332 0, Value.int 1 0, Value.int 0 0, Value.int 0 0, Value.int 3 0, Value.ref 427, Value.bool true, Value.int 181 0, Value.ref 428, Value.none, Value.ref 429, Value.ref 430, Value.ref 431, Value.int 867 0, Value.int 332 0, Value.str (Str.ofString "/claim/cut.py") 868]) #[]) ::
  (nat_lit 433, fo (topDef 60) "law" "law" "law_nn0037_01" 747 432) :: []
noncomputable def KA : List Addr := [3, 15, 22, 23, 24, 25, 28, 35, 36, 37, 69, 70, 76, 77, 83, 84, 90, 91, 97, 98, 104, 105, 111, 112, 118, 119, 125, 126, 132, 133, 139, 140, 146, 147, 153, 154, 160, 161, 165, 166, 172, 173, 186, 187, 188, 189, 190, 191, 192, 200, 201, 207, 208, 214, 215, 221, 222, 228, 229, 235, 236, 242, 243, 249, 250, 256, 257, 263, 264, 270, 271, 277, 278, 284, 285, 291, 292, 298, 299, 305, 306, 312, 313, 319, 320, 326, 327, 333, 334, 340, 341, 347, 348, 352, 353, 359, 360, 366, 367, 373, 374, 380, 381, 387, 388, 394, 395, 399, 400, 406, 407, 413, 414, 420, 421, 425, 426, 432, 433]
theorem KA_eq (P : Params) : KA = (KF P).map (·.1) := rfl
theorem size_ (w : World) : ((boot_heap w.params).isNs mainGlobals, (boot_heap w.params).objs.toList.length, (boot_heap w.params).nsMap mainGlobals "__annotations__") = (true, 11, some (Value.ref 6)) := by
  kernel_rfl
noncomputable abbrev hkH : Hook := kmHook KF KA KA_eq [294, 287, 428]
theorem run_ : ∀ w : World, (fun os => (bt (boot_heap w.params).objs.toList 0 .nil).bind fun T => (topGoT (stepT (denote treeTable) lawP w) (stepOk 11 (some (Value.ref 6))) 5710 ⟨T, 11, (boot_heap w.params).life, Array.mk [], boot_drawn, boot_toks, os⟩ (topStub lawP)).map fun s =>
      ((staticsOk (importedModules lawP.main.body) (boot_heap w.params) s.abs.heap && namesBound lawP s.abs.heap && gensDone s.abs && laidKept (boot_heap w.params) s.abs.heap), openSeen viewP looseL (importedModules lawP.main.body) (fun s => xlAt viewP [] s && recOk PySem.Challenge.rw_nn0037_01.row.records s) true s.abs, hkH.obs s.abs)) = fun _ => some (true, openGood viewP looseL, hkH.val w) := by
  intro w
  rw [PySem.W.Fast.te10156331382660048174, PySem.W.Fast.te11892475500146522536, PySem.W.Fast.te14364793385576792824, PySem.W.Fast.te6613529449190102663, PySem.W.Fast.te5923862056798008813, PySem.W.Fast.te4187177175401517315]
  kernel_rfl
theorem left_ : LeftO lawP viewP looseL (fun s => xlAt viewP [] s && recOk PySem.Challenge.rw_nn0037_01.row.records s) hkH.obs hkH.val 5710 :=
  left_of_tree (boot_open (by kernel_rfl) (by decide) (fun s => by kernel_rfl)) size_ run_
theorem said_ : PySem.Challenge.rw_nn0037_01.wellSaid = true := by
  rw [PySem.W.Fast.te9446332074065402090]
  kernel_rfl
theorem ok_ : (chainsOk viewP && opensWell PySem.Challenge.rw_nn0037_01.row.prog && (frees PySem.Challenge.rw_nn0037_01.row.toRowW && PySem.Challenge.rw_nn0037_01.row.within.isEmpty)) = true := by
  kernel_rfl
theorem hd {d : DefRec} {kwd : List (Str × PySem.Expr)} (h1 : defOf viewP PySem.Challenge.rw_nn0037_01.row.name = some (d, kwd)) (h2 : PySem.Challenge.rw_nn0037_01.row.prog.theDef PySem.Challenge.rw_nn0037_01.row.name = some (d.params, d.body, d.scope)) (h3 : kwWritten? d.params.kwonlyargs d.params.kw_defaults = some kwd)
    (walk : WalkO viewP looseL (XL viewP []) (kmHook KF KA KA_eq [294, 287, 428]).says PySem.Challenge.rw_nn0037_01.row.toRowW d kwd fun f vs => PySem.call f vs) : PySem.Challenge.rw_nn0037_01.Holds := by
  refine holds_law said_ fun said => ?_
  exact holds_open (q := viewP) (loose := looseL) (Xt := fun s => xlAt viewP [] s && recOk PySem.Challenge.rw_nn0037_01.row.records s) (XP := XL viewP []) (Yf := hkH.obs) (Ya := hkH.val) (YP := (kmHook KF KA KA_eq [294, 287, 428]).says) (N := 5710) left_ hkH.of hkH.keeps
    (fun s e => xl_of s (Bool.and_eq_true_iff.mp e).1) XL.keeps h1 h2 h3 (fun s e => recFacts_of (Bool.and_eq_true_iff.mp e).2) (by rfl) said ok_ ⟨rfl, rfl, rfl, rfl, rfl, by decide +kernel⟩ ⟨[WData.list []], by decide +kernel, by decide +kernel⟩ walk
end Mine
end
namespace Mine
noncomputable def num (b : Nat) : List Nat → Nat
  | [] => 0
  | d :: ds => d + b * num b ds
noncomputable def Dig (b : Nat) (ds : List Nat) : Prop := ∀ d ∈ ds, d < b
noncomputable def strip : List Nat → List Nat
  | [] => []
  | d :: ds => match strip ds with
    | [] => if d = 0 then [] else [d]
    | t => d :: t
@[irreducible] noncomputable def dg (b x : Nat) : List Nat := WellFounded.fix (C := fun _ => List Nat) Nat.lt_wfRel.wf (fun x ih => if h : x = 0 ∨ b < 2 then [] else
  x % b :: ih (x / b) (Nat.div_lt_self (Nat.pos_of_ne_zero fun z => h (.inl z)) (Nat.lt_of_not_le fun z => h (.inr (Nat.lt_succ_of_le z))))) x
theorem dg_eq {b x : Nat} : dg b x = if h : x = 0 ∨ b < 2 then [] else x % b :: dg b (x / b) := by
  unfold dg
  exact WellFounded.fix_eq _ _ _
theorem dg_zero {b : Nat} : dg b 0 = [] := by rw [dg_eq]; simp
theorem dg_pos {b x : Nat} (hb : 2 ≤ b) (hx : 0 < x) : dg b x = x % b :: dg b (x / b) := by
  rw [dg_eq, dif_neg (by (first | lia | omega))]
theorem Dig.nil {b : Nat} : Dig b [] := fun d h => by cases h
theorem Dig.cons {b d : Nat} {ds : List Nat} (h : d < b) (k : Dig b ds) : Dig b (d :: ds) := fun e m => by
  rcases List.mem_cons.mp m with rfl | m
  · exact h
  · exact k _ m
theorem Dig.head {b d : Nat} {ds : List Nat} (h : Dig b (d :: ds)) : d < b := h _ (.head _)
theorem Dig.tail {b d : Nat} {ds : List Nat} (h : Dig b (d :: ds)) : Dig b ds := fun e m => h _ (.tail _ m)
theorem Dig.append {b : Nat} {ds es : List Nat} (h : Dig b ds) (k : Dig b es) : Dig b (ds ++ es) := fun e m => (List.mem_append.mp m).elim (h e) (k e)
theorem Dig.snoc {b d : Nat} {ds : List Nat} (h : Dig b ds) (k : d < b) : Dig b (ds ++ [d]) := h.append (Dig.nil.cons k)
theorem Dig.take {b : Nat} {ds : List Nat} (h : Dig b ds) (n : Nat) : Dig b (ds.take n) := fun e m => h e (List.mem_of_mem_take m)
theorem Dig.drop {b : Nat} {ds : List Nat} (h : Dig b ds) (n : Nat) : Dig b (ds.drop n) := fun e m => h e (List.mem_of_mem_drop m)
theorem Dig.rep {b n : Nat} (h : 0 < b) : Dig b (List.replicate n 0) := fun e m => by rw [(List.mem_replicate.mp m).2]; exact h
theorem Dig.set {b d : Nat} {ds : List Nat} (h : Dig b ds) (k : d < b) (n : Nat) : Dig b (ds.set n d) := fun e m => by
  rcases List.mem_or_eq_of_mem_set m with m | rfl
  · exact h _ m
  · exact k
theorem Dig.getD {b : Nat} {ds : List Nat} (h : Dig b ds) (hb : 0 < b) (i : Nat) : ds.getD i 0 < b := by
  by_cases hi : i < ds.length
  · simp [hi]; exact h _ (List.getElem_mem hi)
  · simp [Nat.not_lt.mp hi]; exact hb
theorem num_append {b : Nat} (xs ys : List Nat) : num b (xs ++ ys) = num b xs + b ^ xs.length * num b ys := by
  induction xs with
  | nil => simp [num]
  | cons d ds ih => simp only [List.cons_append, num, ih, List.length_cons, Nat.pow_succ]; grind
theorem num_snoc {b d : Nat} (xs : List Nat) : num b (xs ++ [d]) = num b xs + b ^ xs.length * d := by
  rw [num_append]; simp [num]
theorem num_rep {b n : Nat} : num b (List.replicate n 0) = 0 := by
  induction n with
  | zero => rfl
  | succ n ih => rw [List.replicate_succ, num, ih]; simp
theorem num_lt {b : Nat} {ds : List Nat} (h : Dig b ds) : num b ds < b ^ ds.length := by
  induction ds with
  | nil => simp [num]
  | cons d ds ih =>
    have := ih h.tail
    have h1 := h.head
    simp only [num, List.length_cons, Nat.pow_succ]
    have h2 : b * (num b ds + 1) ≤ b * b ^ ds.length := Nat.mul_le_mul_left _ this
    have h3 : b * (num b ds + 1) = b * num b ds + b := by grind
    have h4 : b * b ^ ds.length = b ^ ds.length * b := Nat.mul_comm _ _
    (first | lia | omega)
theorem strip_cons_nil {d : Nat} {ds : List Nat} (h : strip ds = []) : strip (d :: ds) = if d = 0 then [] else [d] := by rw [strip, h]
theorem strip_cons_ne {d : Nat} {ds : List Nat} (h : strip ds ≠ []) : strip (d :: ds) = d :: strip ds := by
  rw [strip]; split
  · rename_i e; exact absurd e h
  · rfl
theorem dg_ne {b x : Nat} (hb : 2 ≤ b) (hx : 0 < x) : dg b x ≠ [] := by rw [dg_pos hb hx]; intro z; cases z
theorem dg_eq_nil {b x : Nat} (hb : 2 ≤ b) : dg b x = [] ↔ x = 0 := by
  constructor
  · intro h
    rcases Nat.eq_zero_or_pos x with h0 | h0
    · exact h0
    · exact absurd h (dg_ne hb h0)
  · rintro rfl; exact dg_zero
theorem strip_eq {b : Nat} (hb : 2 ≤ b) : ∀ {ds : List Nat}, Dig b ds → strip ds = dg b (num b ds)
  | [], _ => by rw [num, dg_zero]; rfl
  | d :: ds, h => by
    have ih := strip_eq hb h.tail
    have hd := h.head
    have e1 : (d + b * num b ds) % b = d := by rw [Nat.add_mul_mod_self_left, Nat.mod_eq_of_lt hd]
    have e2 : (d + b * num b ds) / b = num b ds := by
      rw [Nat.add_mul_div_left _ _ (by (first | lia | omega)), Nat.div_eq_of_lt hd, Nat.zero_add]
    rcases Nat.eq_zero_or_pos (num b ds) with h0 | h0
    · rw [h0, dg_zero] at ih
      rw [strip_cons_nil ih, num, h0]
      split
      · rename_i z; rw [z, Nat.mul_zero, dg_zero]
      · rw [h0] at e1 e2
        rw [dg_pos hb (by (first | lia | omega)), e1, e2, dg_zero]
    · have hne : strip ds ≠ [] := by rw [ih]; exact dg_ne hb h0
      rw [strip_cons_ne hne, num, dg_pos hb (by have : 0 < b * num b ds := Nat.mul_pos (by (first | lia | omega)) h0; (first | lia | omega)), e1, e2, ih]
theorem num_dg {b : Nat} (hb : 2 ≤ b) (x : Nat) : num b (dg b x) = x := by
  induction x using Nat.strongRecOn with
  | _ x ih =>
    rcases Nat.eq_zero_or_pos x with h0 | h0
    · rw [h0, dg_zero]; rfl
    · rw [dg_pos hb h0, num, ih _ (Nat.div_lt_self h0 hb)]; exact Nat.mod_add_div x b
theorem Dig_dg {b : Nat} (hb : 2 ≤ b) (x : Nat) : Dig b (dg b x) := by
  induction x using Nat.strongRecOn with
  | _ x ih =>
    rcases Nat.eq_zero_or_pos x with h0 | h0
    · rw [h0, dg_zero]; exact .nil
    · rw [dg_pos hb h0]; exact .cons (Nat.mod_lt _ (by (first | lia | omega))) (ih _ (Nat.div_lt_self h0 hb))
theorem dg_num {b : Nat} (hb : 2 ≤ b) {ds : List Nat} (h : Dig b ds) : dg b (num b ds) = strip ds := (strip_eq hb h).symm
theorem strip_dg {b : Nat} (hb : 2 ≤ b) (x : Nat) : strip (dg b x) = dg b x := by rw [strip_eq hb (Dig_dg hb x), num_dg hb]
theorem dg_inj {b x y : Nat} (hb : 2 ≤ b) : dg b x = dg b y ↔ x = y := by
  constructor
  · intro h; rw [← num_dg hb x, h, num_dg hb]
  · rintro rfl; rfl
theorem strip_snoc {ds : List Nat} {d : Nat} (h : d ≠ 0) : strip (ds ++ [d]) = ds ++ [d] := by
  induction ds with
  | nil => simp [strip, h]
  | cons e es ih => rw [List.cons_append, strip_cons_ne (by rw [ih]; simp), ih]
theorem eq_dg_snoc {b d : Nat} {ds : List Nat} (hb : 2 ≤ b) (h : Dig b (ds ++ [d])) (h0 : d ≠ 0) : ds ++ [d] = dg b (num b (ds ++ [d])) := by
  rw [← strip_eq hb h, strip_snoc h0]
theorem dg_len_le {b : Nat} (hb : 2 ≤ b) (x k : Nat) : (dg b x).length ≤ k ↔ x < b ^ k := by
  induction k generalizing x with
  | zero =>
    rw [Nat.pow_zero]
    constructor
    · intro h
      have : dg b x = [] := List.length_eq_zero_iff.mp (by (first | lia | omega))
      rw [dg_eq_nil hb] at this; (first | lia | omega)
    · intro h
      have : x = 0 := by (first | lia | omega)
      rw [this, dg_zero]; simp
  | succ k ih =>
    rcases Nat.eq_zero_or_pos x with h0 | h0
    · rw [h0, dg_zero]; simp only [List.length_nil, Nat.zero_le, true_iff]; exact Nat.pow_pos (by (first | lia | omega))
    · rw [dg_pos hb h0, List.length_cons, Nat.add_le_add_iff_right, ih, Nat.pow_succ, Nat.div_lt_iff_lt_mul (by (first | lia | omega))]
theorem dg_lt {b : Nat} (hb : 2 ≤ b) (x : Nat) : x < b ^ (dg b x).length := (dg_len_le hb x _).mp (Nat.le_refl _)
theorem dg_ge {b : Nat} (hb : 2 ≤ b) {x : Nat} (hx : 0 < x) : b ^ ((dg b x).length - 1) ≤ x := by
  have h := dg_len_le hb x ((dg b x).length - 1)
  have h1 : 0 < (dg b x).length := List.length_pos_iff.mpr (dg_ne hb hx)
  (first | lia | omega)
theorem dg_len_mono {b x y : Nat} (hb : 2 ≤ b) (h : x ≤ y) : (dg b x).length ≤ (dg b y).length := (dg_len_le hb x _).mpr (Nat.lt_of_le_of_lt h (dg_lt hb y))
theorem dg_len_small {b x k : Nat} (hb : 2 ≤ b) (h : x < 2 ^ k) : (dg b x).length ≤ k := (dg_len_le hb x k).mpr (Nat.lt_of_lt_of_le h (Nat.pow_le_pow_left hb k))
theorem num_take_drop {b : Nat} (ds : List Nat) (k : Nat) : num b ds = num b (ds.take k) + b ^ (ds.take k).length * num b (ds.drop k) := by
  rw [← num_append, List.take_append_drop]
theorem num_take {b : Nat} (hb : 0 < b) {ds : List Nat} (h : Dig b ds) (k : Nat) : num b (ds.take k) = num b ds % b ^ k := by
  by_cases hk : k ≤ ds.length
  · have e := num_take_drop (b := b) ds k
    have l : (ds.take k).length = k := by simp [hk]
    have lt := num_lt (h.take k)
    rw [l] at e lt
    rw [e, Nat.add_mul_mod_self_left, Nat.mod_eq_of_lt lt]
  · rw [List.take_of_length_le (by (first | lia | omega)), Nat.mod_eq_of_lt]
    exact Nat.lt_of_lt_of_le (num_lt h) (Nat.pow_le_pow_right hb (by (first | lia | omega)))
theorem num_drop {b : Nat} (hb : 0 < b) {ds : List Nat} (h : Dig b ds) (k : Nat) : num b (ds.drop k) = num b ds / b ^ k := by
  by_cases hk : k ≤ ds.length
  · have e := num_take_drop (b := b) ds k
    have l : (ds.take k).length = k := by simp [hk]
    have lt := num_lt (h.take k)
    rw [l] at e lt
    rw [e, Nat.add_mul_div_left _ _ (Nat.pow_pos hb), Nat.div_eq_of_lt lt, Nat.zero_add]
  · rw [List.drop_of_length_le (by (first | lia | omega)), num, Nat.div_eq_of_lt]
    exact Nat.lt_of_lt_of_le (num_lt h) (Nat.pow_le_pow_right hb (by (first | lia | omega)))
theorem num_head {b : Nat} {ds : List Nat} (h : Dig b ds) (hb : 0 < b) : ds.getD 0 0 = num b ds % b := by
  cases ds with
  | nil => simp [num]
  | cons d t => simp [num, Nat.mod_eq_of_lt h.head]
theorem num_getD {b : Nat} (hb : 0 < b) {ds : List Nat} (h : Dig b ds) (k : Nat) : ds.getD k 0 = num b ds / b ^ k % b := by
  rw [← num_drop hb h, ← num_head (h.drop k) hb]; simp
theorem dg_getD {b : Nat} (hb : 2 ≤ b) (x k : Nat) : (dg b x).getD k 0 = x / b ^ k % b := by rw [num_getD (by (first | lia | omega)) (Dig_dg hb x), num_dg hb]
theorem num_take_succ {b : Nat} (ds : List Nat) (k : Nat) (hk : k < ds.length) : num b (ds.take (k + 1)) = num b (ds.take k) + b ^ k * ds.getD k 0 := by
  rw [List.take_succ_eq_append_getElem hk, num_snoc]
  simp [hk, Nat.min_eq_left (Nat.le_of_lt hk)]
theorem num_set {b : Nat} (ds : List Nat) (k d : Nat) (hk : k < ds.length) : num b (ds.set k d) + b ^ k * ds.getD k 0 = num b ds + b ^ k * d := by
  induction ds generalizing k with
  | nil => simp at hk
  | cons e es ih =>
    cases k with
    | zero => simp [num]; (first | lia | omega)
    | succ k =>
      have := ih k (by simpa using hk)
      simp only [List.set_cons_succ, num, List.getD_cons_succ, Nat.pow_succ]
      have h2 : b * (num b (es.set k d) + b ^ k * es.getD k 0) = b * (num b es + b ^ k * d) := by rw [this]
      grind
theorem strip_take {ds : List Nat} : ∀ {e : Nat}, e ≤ ds.length → (∀ i, e ≤ i → ds.getD i 0 = 0) → (e = 0 ∨ ds.getD (e - 1) 0 ≠ 0) → ds.take e = strip ds := by
  induction ds with
  | nil => intro e h _ _; simp [strip]
  | cons d t ih =>
    intro e h h1 h2
    cases e with
    | zero =>
      have := ih (e := 0) (Nat.zero_le _) (fun i _ => by have := h1 (i + 1) (Nat.zero_le _); simpa using this) (.inl rfl)
      rw [strip_cons_nil (by rw [← this]; simp), if_pos (by have := h1 0 (Nat.le_refl _); simpa using this)]; simp
    | succ e =>
      have := ih (e := e) (by simpa using h) (fun i hi => by have := h1 (i + 1) (by (first | lia | omega)); simpa using this) (by
        rcases e with _ | e
        · exact .inl rfl
        · right; rcases h2 with h2 | h2
          · (first | lia | omega)
          · simpa using h2)
      rw [List.take_succ_cons, this]
      rcases e with _ | e
      · simp only [List.take_zero] at this
        rw [strip_cons_nil this.symm, ← this]
        rw [if_neg (by rcases h2 with h2 | h2 <;> simp at h2; exact h2)]
      · rw [strip_cons_ne]
        rw [← this]
        have hl : 0 < t.length := by simp at h; (first | lia | omega)
        intro z
        have : (t.take (e + 1)).length = 0 := by rw [z]; rfl
        rw [List.length_take] at this; (first | lia | omega)
theorem even_dg {w x : Nat} (hw : 2 ≤ w) : (dg (2 ^ w) x).getD 0 0 % 2 = x % 2 := by
  have : 4 ≤ 2 ^ w := Nat.pow_le_pow_right (n := 2) (by decide) hw
  rw [dg_getD (by (first | lia | omega)), Nat.pow_zero, Nat.div_one, Nat.mod_mod_of_dvd]
  exact Nat.dvd_trans ⟨2, rfl⟩ (Nat.pow_dvd_pow 2 hw)
theorem dg_len_zero {b x : Nat} (hb : 2 ≤ b) : (dg b x).length = 0 ↔ x = 0 := by rw [List.length_eq_zero_iff, dg_eq_nil hb]
theorem dg_len_lt {b x y : Nat} (hb : 2 ≤ b) (h : (dg b x).length < (dg b y).length) : x < y := by
  have h1 : ¬ y ≤ x := fun z => by have := dg_len_mono hb z; (first | lia | omega)
  (first | lia | omega)
theorem div_step (b z i : Nat) : z / b ^ i = b * (z / b ^ (i + 1)) + z / b ^ i % b := by
  rw [Nat.pow_succ, ← Nat.div_div_eq_div_mul]
  exact (Nat.div_add_mod _ _).symm
theorem top_lt {b x y i : Nat} (h : x / b ^ (i + 1) = y / b ^ (i + 1)) (k : x / b ^ i % b < y / b ^ i % b) : x < y := by
  have h1 := div_step b x i
  have h2 := div_step b y i
  rw [h] at h1
  have h3 : ¬ y ≤ x := fun z => by have := Nat.div_le_div_right (c := b ^ i) z; (first | lia | omega)
  (first | lia | omega)
theorem top_eq {b x y i : Nat} (h : x / b ^ (i + 1) = y / b ^ (i + 1)) (k : x / b ^ i % b = y / b ^ i % b) : x / b ^ i = y / b ^ i := by
  rw [div_step b x i, div_step b y i, h, k]
theorem dg_lift {b x : Nat} (hb : 2 ≤ b) (hx : 0 < x) (n : Nat) : List.replicate n 0 ++ dg b x = dg b (x * b ^ n) := by
  induction n with
  | zero => simp
  | succ n ih =>
    have e : x * b ^ (n + 1) = b * (x * b ^ n) := by rw [Nat.pow_succ]; grind
    rw [List.replicate_succ, List.cons_append, ih, e, dg_pos hb (Nat.mul_pos (by (first | lia | omega)) (Nat.mul_pos hx (Nat.pow_pos (by (first | lia | omega))))), Nat.mul_mod_right, Nat.mul_div_cancel_left _ (by (first | lia | omega))]
noncomputable def bl (x : Nat) : Nat := if x = 0 then 0 else x.log2 + 1
theorem bl_iff {x : Nat} (hx : 0 < x) (k : Nat) : bl x = k + 1 ↔ 2 ^ k ≤ x ∧ x < 2 ^ (k + 1) := by
  unfold bl
  rw [if_neg (by (first | lia | omega)), ← Nat.le_log2 (by (first | lia | omega)), ← Nat.log2_lt (by (first | lia | omega))]
  (first | lia | omega)
theorem bl_lt (x : Nat) : x < 2 ^ bl x := by
  unfold bl
  split
  · subst_vars; decide
  · exact Nat.lt_log2_self
theorem bl_ge {x : Nat} (hx : 0 < x) : 2 ^ (bl x - 1) ≤ x := by
  unfold bl
  rw [if_neg (by (first | lia | omega))]
  exact Nat.log2_self_le (by (first | lia | omega))
theorem bl_pos {x : Nat} (hx : 0 < x) : 0 < bl x := by unfold bl; rw [if_neg (by (first | lia | omega))]; (first | lia | omega)
theorem bl_top {w x : Nat} (hw : 2 ≤ w) (hx : 0 < (dg (2 ^ w) x).length) : ((dg (2 ^ w) x).length - 1) * w + bl ((dg (2 ^ w) x).getD ((dg (2 ^ w) x).length - 1) 0) = bl x := by
  have hb : 4 ≤ 2 ^ w := Nat.pow_le_pow_right (n := 2) (by decide) hw
  generalize hn : (dg (2 ^ w) x).length = n at *
  have hx0 : 0 < x := by
    rcases Nat.eq_zero_or_pos x with h | h
    · rw [h, dg_zero] at hn; simp at hn; (first | lia | omega)
    · exact h
  have h1 := dg_lt (b := 2 ^ w) (by (first | lia | omega)) x
  have h2 := dg_ge (b := 2 ^ w) (by (first | lia | omega)) hx0
  rw [hn] at h1 h2
  rw [dg_getD (by (first | lia | omega))]
  have e1 : (2 ^ w) ^ (n - 1) = 2 ^ (w * (n - 1)) := (Nat.pow_mul 2 w (n - 1)).symm
  have h3 : x / (2 ^ w) ^ (n - 1) < 2 ^ w := by
    rw [Nat.div_lt_iff_lt_mul (Nat.pow_pos (by (first | lia | omega))), ← Nat.pow_succ']
    rw [show (n - 1).succ = n by (first | lia | omega)]; exact h1
  rw [Nat.mod_eq_of_lt h3]
  have h4 : 0 < x / (2 ^ w) ^ (n - 1) := Nat.div_pos h2 (Nat.pow_pos (by (first | lia | omega)))
  rw [e1] at h4 ⊢
  obtain ⟨l, hl⟩ : ∃ l, bl (x / 2 ^ (w * (n - 1))) = l + 1 := ⟨_, (Nat.succ_pred_eq_of_pos (bl_pos h4)).symm⟩
  rw [hl]
  obtain ⟨q1, q2⟩ := (bl_iff h4 l).mp hl
  have p : 0 < 2 ^ (w * (n - 1)) := Nat.pow_pos (by decide)
  rw [Nat.le_div_iff_mul_le p, ← Nat.pow_add] at q1
  rw [Nat.div_lt_iff_lt_mul p, ← Nat.pow_add] at q2
  have := (bl_iff hx0 (l + w * (n - 1))).mpr ⟨q1, by rw [show l + w * (n - 1) + 1 = l + 1 + w * (n - 1) by (first | lia | omega)]; exact q2⟩
  rw [this, Nat.mul_comm]; (first | lia | omega)
theorem mod_div_pow {z w r : Nat} (h : r ≤ w) : z % 2 ^ w / 2 ^ r = z / 2 ^ r % 2 ^ (w - r) := by
  have e : 2 ^ w = 2 ^ r * 2 ^ (w - r) := by rw [← Nat.pow_add]; congr 1; (first | lia | omega)
  rw [e, Nat.mod_mul_right_div_self]
theorem bit_dg {w x n : Nat} (hw : 2 ≤ w) : (dg (2 ^ w) x).getD (n / w) 0 / 2 ^ (n % w) % 2 = x / 2 ^ n % 2 := by
  have hb : 4 ≤ 2 ^ w := Nat.pow_le_pow_right (n := 2) (by decide) hw
  have hr : n % w < w := Nat.mod_lt _ (by (first | lia | omega))
  rw [dg_getD (by (first | lia | omega)), mod_div_pow (by (first | lia | omega)), Nat.mod_mod_of_dvd _ (by
    have : 2 ^ 1 ∣ 2 ^ (w - n % w) := Nat.pow_dvd_pow 2 (by (first | lia | omega))
    simpa using this), Nat.div_div_eq_div_mul, ← Nat.pow_mul, ← Nat.pow_add, Nat.div_add_mod]
theorem bit_high {w x n : Nat} (hw : 2 ≤ w) (h : ¬ n / w < (dg (2 ^ w) x).length) : x / 2 ^ n = 0 := by
  have hb : 4 ≤ 2 ^ w := Nat.pow_le_pow_right (n := 2) (by decide) hw
  have h1 := dg_lt (b := 2 ^ w) (by (first | lia | omega)) x
  refine Nat.div_eq_of_lt (Nat.lt_of_lt_of_le h1 ?_)
  rw [← Nat.pow_mul]
  refine Nat.pow_le_pow_right (by decide) (Nat.le_trans (Nat.mul_le_mul_left _ (Nat.not_lt.mp h)) (Nat.mul_div_le n w))
theorem take_dg {b x n : Nat} (hb : 2 ≤ b) : strip ((dg b x).take n) = dg b (x % b ^ n) := by
  rw [strip_eq hb ((Dig_dg hb x).take n), num_take (by (first | lia | omega)) (Dig_dg hb x), num_dg hb]
theorem num_inj_len {b : Nat} (hb : 0 < b) : ∀ {xs ys : List Nat}, Dig b xs → Dig b ys → xs.length = ys.length → num b xs = num b ys → xs = ys
  | [], [], _, _, _, _ => rfl
  | [], y :: ys, _, _, h, _ => by simp at h
  | x :: xs, [], _, _, h, _ => by simp at h
  | x :: xs, y :: ys, hx, hy, hl, hn => by
    simp only [num] at hn
    have e1 : (x + b * num b xs) % b = x := by rw [Nat.add_mul_mod_self_left, Nat.mod_eq_of_lt hx.head]
    have e2 : (y + b * num b ys) % b = y := by rw [Nat.add_mul_mod_self_left, Nat.mod_eq_of_lt hy.head]
    have e3 : x = y := by rw [← e1, hn, e2]
    subst e3
    have e4 : num b xs = num b ys := Nat.eq_of_mul_eq_mul_left hb (Nat.add_left_cancel hn)
    rw [num_inj_len hb hx.tail hy.tail (by simpa using hl) e4]
theorem eq_dg_len {b : Nat} (hb : 2 ≤ b) {fs : List Nat} (h : Dig b fs) (hl : fs.length = 0 ∨ b ^ (fs.length - 1) ≤ num b fs) : fs = dg b (num b fs) := by
  refine num_inj_len (by (first | lia | omega)) h (Dig_dg hb _) ?_ (num_dg hb _).symm
  have h1 := (dg_len_le hb (num b fs) fs.length).mpr (num_lt h)
  rcases hl with hl | hl
  · (first | lia | omega)
  · have h2 := dg_len_le hb (num b fs) (fs.length - 1)
    (first | lia | omega)
theorem carry_step {b j c : Nat} {fs : List Nat} (hl : fs.length = j) : num b (fs ++ [c % b]) + b ^ (j + 1) * (c / b) = num b fs + b ^ j * c := by
  rw [num_snoc, hl, Nat.pow_succ]
  have := Nat.mod_add_div c b
  have e : b ^ j * c = b ^ j * (c % b + b * (c / b)) := by rw [this]
  rw [e, Nat.mul_add]; grind
theorem mod_succ (x b j : Nat) : x % b ^ (j + 1) = x % b ^ j + b ^ j * (x / b ^ j % b) := Nat.mod_pow_succ
theorem sub_step {F Yl Xl p br z e d b br' : Nat} (h : F + Yl = Xl + p * br) (hz : z + br + e = d + b * br') : F + p * z + (Yl + p * e) = Xl + p * d + p * b * br' := by
  have h1 : p * (z + br + e) = p * (d + b * br') := by rw [hz]
  grind
theorem add_end {b X Y n cy : Nat} {fs : List Nat} (hb : 2 ≤ b) (hD : Dig b fs) (hl : fs.length = n) (hn : n = (dg b X).length) (h : num b fs + b ^ n * cy = X + Y) (hc : cy = 0) : fs = dg b (X + Y) := by
  subst hc
  rw [Nat.mul_zero, Nat.add_zero] at h
  rw [← h]
  refine eq_dg_len hb hD ?_
  rcases Nat.eq_zero_or_pos X with h0 | h0
  · left; rw [hl, hn, h0, dg_zero]; rfl
  · right
    rw [h, hl, hn]
    exact Nat.le_trans (dg_ge hb h0) (Nat.le_add_right _ _)
theorem shl_end {b X sp few : Nat} {fs : List Nat} (hb : 2 ≤ b) (hX : 0 < X) (hD : Dig b fs) (hl : fs.length = sp + (dg b X).length) (h : num b fs = X * (b ^ sp * 2 ^ few)) : fs = dg b (X * (b ^ sp * 2 ^ few)) := by
  rw [← h]
  refine eq_dg_len hb hD (.inr ?_)
  have h1 := dg_ge hb hX
  have h2 : 0 < (dg b X).length := List.length_pos_iff.mpr (dg_ne hb hX)
  rw [h, hl, show sp + (dg b X).length - 1 = ((dg b X).length - 1) + sp by (first | lia | omega), Nat.pow_add]
  refine Nat.mul_le_mul h1 ?_
  exact Nat.le_mul_of_pos_right _ (Nat.pow_pos (by decide))
theorem snoc_end {b c t : Nat} {fs : List Nat} (hb : 2 ≤ b) (hD : Dig b fs) (hc : c < b) (h0 : 0 < c) (h : num b fs + b ^ fs.length * c = t) : fs ++ [c] = dg b t := by
  rw [eq_dg_snoc hb (hD.snoc hc) (by (first | lia | omega)), num_snoc, h]
theorem pow_split {w n : Nat} (hw : 0 < w) : (2 ^ w) ^ (n / w) * 2 ^ (n % w) = 2 ^ n := by
  rw [← Nat.pow_mul, ← Nat.pow_add, Nat.div_add_mod]
theorem shr_digit {w z r : Nat} (hr : r < w) : (z % 2 ^ w / 2 ^ r + z / 2 ^ w % 2 ^ w * 2 ^ (w - r)) % 2 ^ w = z / 2 ^ r % 2 ^ w := by
  have e : 2 ^ w = 2 ^ r * 2 ^ (w - r) := by rw [← Nat.pow_add]; congr 1; (first | lia | omega)
  have hz : z / 2 ^ r = z % 2 ^ w / 2 ^ r + z / 2 ^ w * 2 ^ (w - r) := by
    have h1 : z = z % 2 ^ w + 2 ^ r * (z / 2 ^ w * 2 ^ (w - r)) := by
      have := (Nat.mod_add_div z (2 ^ w)).symm
      have h2 : 2 ^ w * (z / 2 ^ w) = 2 ^ r * (z / 2 ^ w * 2 ^ (w - r)) := by
        rw [show 2 ^ w * (z / 2 ^ w) = 2 ^ r * 2 ^ (w - r) * (z / 2 ^ w) by rw [← e]]; grind
      (first | lia | omega)
    have h3 : z / 2 ^ r = (z % 2 ^ w + 2 ^ r * (z / 2 ^ w * 2 ^ (w - r))) / 2 ^ r := by rw [← h1]
    rw [h3, Nat.add_mul_div_left _ _ (Nat.pow_pos (by decide))]
  rw [hz]
  rw [Nat.add_mod, Nat.mul_mod, Nat.mod_mod, ← Nat.mul_mod, ← Nat.add_mod]
theorem shr_end {w x n : Nat} (hw : 2 ≤ w) : x / 2 ^ n % (2 ^ w) ^ ((dg (2 ^ w) x).length - n / w) = x / 2 ^ n := by
  have hb : 4 ≤ 2 ^ w := Nat.pow_le_pow_right (n := 2) (by decide) hw
  refine Nat.mod_eq_of_lt ?_
  have h1 := dg_lt (b := 2 ^ w) (by (first | lia | omega)) x
  rw [Nat.div_lt_iff_lt_mul (Nat.pow_pos (by decide))]
  refine Nat.lt_of_lt_of_le h1 ?_
  rw [← pow_split (w := w) (n := n) (by (first | lia | omega)), ← Nat.mul_assoc, ← Nat.pow_add]
  refine Nat.le_trans ?_ (Nat.le_mul_of_pos_right _ (Nat.pow_pos (by decide)))
  exact Nat.pow_le_pow_right (by (first | lia | omega)) (by (first | lia | omega))
theorem low_all {w x n : Nat} (hw : 2 ≤ w) (h : (dg (2 ^ w) x).length ≤ n / w) : x % 2 ^ n = x := by
  have := bit_high (n := n) hw (by (first | lia | omega) : ¬ n / w < (dg (2 ^ w) x).length)
  refine Nat.mod_eq_of_lt ?_
  rcases Nat.lt_or_ge x (2 ^ n) with h | h
  · exact h
  · have := Nat.div_pos h (Nat.pow_pos (by decide)); (first | lia | omega)
theorem low_part {w x n : Nat} (hw : 2 ≤ w) : x % (2 ^ w) ^ (n / w) + (2 ^ w) ^ (n / w) * (x / (2 ^ w) ^ (n / w) % 2 ^ w % 2 ^ (n % w)) = x % 2 ^ n := by
  rw [Nat.mod_mod_of_dvd _ (Nat.pow_dvd_pow 2 (Nat.le_of_lt (Nat.mod_lt _ (by (first | lia | omega))))), ← Nat.mod_mul, pow_split (by (first | lia | omega))]
@[irreducible] noncomputable def tz (x : Nat) : Nat := WellFounded.fix (C := fun _ => Nat) Nat.lt_wfRel.wf (fun x ih => if h : x = 0 ∨ x % 2 = 1 then 0 else
  1 + ih (x / 2) (Nat.div_lt_self (Nat.pos_of_ne_zero fun z => h (.inl z)) (by decide))) x
theorem tz_eq {x : Nat} : tz x = if h : x = 0 ∨ x % 2 = 1 then 0 else 1 + tz (x / 2) := by
  unfold tz
  exact WellFounded.fix_eq _ _ _
theorem tz_spec {x : Nat} (hx : 0 < x) : ∃ q, x = 2 ^ tz x * (2 * q + 1) := by
  induction x using Nat.strongRecOn with
  | _ x ih =>
    rw [tz_eq]
    split
    · exact ⟨x / 2, by simp; (first | lia | omega)⟩
    · obtain ⟨q, hq⟩ := ih (x / 2) (by (first | lia | omega)) (by (first | lia | omega))
      refine ⟨q, ?_⟩
      rw [Nat.pow_add]
      have : x = 2 * (x / 2) := by (first | lia | omega)
      rw [Nat.mul_assoc, ← hq]; (first | lia | omega)
theorem tz_unique {v q : Nat} : tz (2 ^ v * (2 * q + 1)) = v := by
  induction v with
  | zero => rw [tz_eq, dif_pos (by right; (first | lia | omega))]
  | succ v ih =>
    have e : 2 ^ (v + 1) * (2 * q + 1) = 2 * (2 ^ v * (2 * q + 1)) := by rw [Nat.pow_succ]; grind
    have p : 0 < 2 ^ v * (2 * q + 1) := Nat.mul_pos (Nat.pow_pos (by decide)) (by (first | lia | omega))
    rw [tz_eq, dif_neg (by (first | lia | omega)), e, Nat.mul_div_cancel_left _ (by decide), ih]; (first | lia | omega)
theorem tz_dvd {x : Nat} : 2 ^ tz x ∣ x := by
  rcases Nat.eq_zero_or_pos x with h | h
  · subst h; exact ⟨0, rfl⟩
  · obtain ⟨q, hq⟩ := tz_spec h; exact ⟨_, hq⟩
theorem tz_digits {w x i : Nat} (hx : x / (2 ^ w) ^ i % 2 ^ w ≠ 0) (h0 : x % (2 ^ w) ^ i = 0) : tz x = i * w + tz (x / (2 ^ w) ^ i % 2 ^ w) := by
  obtain ⟨q, hq⟩ := tz_spec (Nat.pos_of_ne_zero hx)
  generalize hk : tz (x / (2 ^ w) ^ i % 2 ^ w) = k at *
  have hkw : k < w := by
    rcases Nat.lt_or_ge k w with h | h
    · exact h
    · have h1 : 2 ^ w ≤ 2 ^ k := Nat.pow_le_pow_right (by decide) h
      have h2 := Nat.mod_lt (x / (2 ^ w) ^ i) (Nat.pow_pos (n := w) (show 0 < 2 by decide))
      have h3 : 2 ^ k * 1 ≤ 2 ^ k * (2 * q + 1) := Nat.mul_le_mul_left _ (by (first | lia | omega))
      (first | lia | omega)
  generalize hz : x / (2 ^ w) ^ i = z at *
  have e1 : z = 2 ^ k * (2 * (q + 2 ^ (w - k - 1) * (z / 2 ^ w)) + 1) := by
    have h1 := (Nat.mod_add_div z (2 ^ w)).symm
    have h2 : 2 ^ w = 2 ^ k * (2 * 2 ^ (w - k - 1)) := by rw [← Nat.pow_succ', ← Nat.pow_add]; congr 1; (first | lia | omega)
    have h3 : 2 ^ w * (z / 2 ^ w) = 2 ^ k * (2 * 2 ^ (w - k - 1)) * (z / 2 ^ w) := by rw [← h2]
    rw [hq, h3] at h1
    rw [h1]
    conv => rhs; rw [← h1]
    grind
  have e2 : x = 2 ^ (i * w + k) * (2 * (q + 2 ^ (w - k - 1) * (z / 2 ^ w)) + 1) := by
    have h1 := (Nat.mod_add_div x ((2 ^ w) ^ i)).symm
    rw [h0, hz, Nat.zero_add] at h1
    rw [Nat.pow_add, Nat.mul_assoc, ← e1, Nat.mul_comm i w, Nat.pow_mul]; exact h1
  rw [e2, tz_unique]
theorem pow_dvdI {a b : Nat} (h : a ≤ b) : (2 : Int) ^ a ∣ 2 ^ b := ⟨2 ^ (b - a), by rw [← Int.pow_add]; congr 1; (first | lia | omega)⟩
theorem newton_step {d f w k : Nat} (h : ((2 : Int) ^ k) ∣ (d : Int) * f - 1) :
    (2 : Int) ^ (min (2 * k) w) ∣ (d : Int) * ((f * (((((2 : Nat) : Int) - ((d * f : Nat) : Int)) % ((1 * 2 ^ w : Nat) : Int)).toNat) % (1 * 2 ^ w) : Nat) : Int) - 1 := by
  have hpos : (0 : Int) < ((1 * 2 ^ w : Nat) : Int) := by
    have : 0 < 2 ^ w := Nat.pow_pos (by decide)
    (first | lia | omega)
  have hW : ((1 * 2 ^ w : Nat) : Int) = 2 ^ w := by simp
  have e1 : (((((((2 : Nat) : Int) - ((d * f : Nat) : Int)) % ((1 * 2 ^ w : Nat) : Int)).toNat) : Nat) : Int) = (2 - (d : Int) * f) % 2 ^ w := by
    rw [Int.toNat_of_nonneg (Int.emod_nonneg _ (by (first | lia | omega))), hW]; simp
  have e2 : ((f * (((((2 : Nat) : Int) - ((d * f : Nat) : Int)) % ((1 * 2 ^ w : Nat) : Int)).toNat) % (1 * 2 ^ w) : Nat) : Int) = ((f : Int) * ((2 - (d : Int) * f) % 2 ^ w)) % 2 ^ w := by
    rw [Int.natCast_emod, Int.natCast_mul, e1, hW]
  rw [e2]
  obtain ⟨t, ht⟩ := h
  have p1 : (2 : Int) ^ (min (2 * k) w) ∣ 2 ^ w := pow_dvdI (Nat.min_le_right _ _)
  have p2 : (2 : Int) ^ (min (2 * k) w) ∣ 2 ^ (2 * k) := pow_dvdI (Nat.min_le_left _ _)
  have q1 := Int.mul_ediv_add_emod ((f : Int) * ((2 - (d : Int) * f) % 2 ^ w)) (2 ^ w)
  have q2 := Int.mul_ediv_add_emod (2 - (d : Int) * f) (2 ^ w)
  generalize (2 - (d : Int) * f) / 2 ^ w = a at *
  generalize (2 - (d : Int) * f) % 2 ^ w = r at *
  generalize (f : Int) * r / 2 ^ w = c at *
  generalize (f : Int) * r % 2 ^ w = s at *
  have key : (d : Int) * s - 1 = 2 ^ w * (-(d * c) - d * f * a) + 2 ^ (2 * k) * (-(t * t)) := by
    have e3 : (2 : Int) ^ (2 * k) = 2 ^ k * 2 ^ k := by rw [← Int.pow_add]; congr 1; (first | lia | omega)
    rw [e3]
    have : s = f * r - 2 ^ w * c := by (first | lia | omega)
    have hr : r = (2 - (d : Int) * f) - 2 ^ w * a := by (first | lia | omega)
    have ht' : (d : Int) * f = 2 ^ k * t + 1 := by (first | lia | omega)
    have : (d : Int) * s - 1 = (d * f) * (2 - d * f) - 1 - 2 ^ w * (d * f * a) - 2 ^ w * (d * c) := by
      rw [this, hr]; grind
    rw [this, ht']; grind
  rw [key]
  exact Int.dvd_add (Int.dvd_trans p1 ⟨_, rfl⟩) (Int.dvd_trans p2 ⟨_, rfl⟩)
theorem newton_start {d w : Nat} (hd : d % 2 = 1) (hdw : d < 2 ^ w) : (2 : Int) ^ (min 3 w) ∣ (d : Int) * ((d % (1 * 2 ^ w) : Nat) : Int) - 1 := by
  rw [Nat.one_mul, Nat.mod_eq_of_lt hdw]
  refine Int.dvd_trans (pow_dvdI (Nat.min_le_left 3 w)) ?_
  have h8 : (d * d) % 8 = 1 := by
    have : d % 8 = 1 ∨ d % 8 = 3 ∨ d % 8 = 5 ∨ d % 8 = 7 := by (first | lia | omega)
    rw [Nat.mul_mod]
    rcases this with h | h | h | h <;> rw [h]
  refine ⟨((d * d / 8 : Nat) : Int), ?_⟩
  have := Nat.mod_add_div (d * d) 8
  rw [h8] at this
  have e := congrArg (fun (n : Nat) => (n : Int)) this
  simp only [Int.natCast_add, Int.natCast_mul] at e
  (first | lia | omega)
theorem newton_end {d f w : Nat} (hw : 1 ≤ w) (h : (2 : Int) ^ w ∣ (d : Int) * f - 1) : d * f % 2 ^ w = 1 := by
  obtain ⟨t, ht⟩ := h
  have e : ((d * f : Nat) : Int) = 1 + 2 ^ w * t := by rw [Int.natCast_mul]; (first | lia | omega)
  have h2 : 1 < 2 ^ w := Nat.one_lt_two_pow (by (first | lia | omega))
  have : ((d * f % 2 ^ w : Nat) : Int) = 1 := by
    rw [Int.natCast_emod, e, Int.natCast_pow]
    show (1 + (2 : Int) ^ w * t) % 2 ^ w = 1
    rw [Int.add_mul_emod_self_left]
    refine Int.emod_eq_of_lt (by decide) ?_
    have := congrArg (fun (n : Nat) => (n : Int)) (rfl : 2 ^ w = 2 ^ w)
    have e3 : ((2 ^ w : Nat) : Int) = 2 ^ w := by simp
    (first | lia | omega)
  (first | lia | omega)
theorem sub_done {w x y n br : Nat} {fs : List Nat} (hI : num (2 ^ w) fs + y = x + (2 ^ w) ^ n * br) (hlt : num (2 ^ w) fs < (2 ^ w) ^ n) (hyx : y ≤ x) : num (2 ^ w) fs = x - y := by
  rcases Nat.eq_zero_or_pos br with h | h
  · rw [h, Nat.mul_zero] at hI; (first | lia | omega)
  · have : (2 ^ w) ^ n * 1 ≤ (2 ^ w) ^ n * br := Nat.mul_le_mul_left _ h
    (first | lia | omega)
theorem cancel {m r y z : Nat} (hm : 0 < m) (hc : Nat.Coprime r m) (hy : y < m) (h : y * r % m = z * r % m) : y = z % m := by
  have hz : z % m < m := Nat.mod_lt _ hm
  have h2 : y * r % m = z % m * r % m := by rw [h, Nat.mul_mod z r, Nat.mul_mod (z % m) r, Nat.mod_mod]
  rcases Nat.le_total y (z % m) with hle | hle
  · have hd : m ∣ (z % m - y) * r := by
      rw [Nat.sub_mul]
      exact Nat.dvd_of_mod_eq_zero (Nat.sub_mod_eq_zero_of_mod_eq h2.symm)
    have := hc.symm.dvd_of_dvd_mul_right hd
    have := Nat.eq_zero_of_dvd_of_lt this (by (first | lia | omega))
    (first | lia | omega)
  · have hd : m ∣ (y - z % m) * r := by
      rw [Nat.sub_mul]
      exact Nat.dvd_of_mod_eq_zero (Nat.sub_mod_eq_zero_of_mod_eq h2)
    have := hc.symm.dvd_of_dvd_mul_right hd
    have := Nat.eq_zero_of_dvd_of_lt this (by (first | lia | omega))
    (first | lia | omega)
theorem coprime_pow {m k : Nat} (h : m % 2 = 1) : Nat.Coprime (2 ^ k) m := by
  refine Nat.Coprime.pow_left k ?_
  show Nat.gcd 2 m = 1
  rw [Nat.gcd_rec, h]; rfl
theorem redc_digit {b m mi V : Nat} (hb : 0 < b) (hmi : (mi * m + 1) % b = 0) (l : Nat) (hl : l = (V % b * mi) % b) : (V + m * l) % b = 0 := by
  rw [hl, Nat.add_mod, Nat.mul_mod m, Nat.mod_mod, ← Nat.mul_mod, ← Nat.add_mod]
  have e : V + m * (V % b * mi) = (V / b) * b + V % b * (mi * m + 1) := by
    have := Nat.mod_add_div V b
    have h2 : V % b * (mi * m + 1) = V % b * mi * m + V % b := by rw [Nat.mul_add, Nat.mul_one, Nat.mul_assoc]
    have h3 : m * (V % b * mi) = V % b * mi * m := Nat.mul_comm _ _
    have h4 : b * (V / b) = V / b * b := Nat.mul_comm _ _
    (first | lia | omega)
  rw [e, Nat.mul_add_mod_self_right, Nat.mul_mod, hmi, Nat.mul_zero, Nat.zero_mod]
theorem redc_step {b m mi V j : Nat} (hb : 0 < b) (hmi : (mi * m + 1) % b = 0) (hV : V % b ^ j = 0) (l : Nat) (hl : l = (V / b ^ j % b * mi) % b) : (V + b ^ j * (m * l)) % b ^ (j + 1) = 0 := by
  have e : V = b ^ j * (V / b ^ j) := by have := Nat.mod_add_div V (b ^ j); (first | lia | omega)
  have e2 : V + b ^ j * (m * l) = b ^ j * (V / b ^ j + m * l) := by rw [Nat.mul_add, ← e]
  rw [e2, Nat.pow_succ, Nat.mul_mod_mul_left, redc_digit hb hmi l hl, Nat.mul_zero]
theorem redc_end {R m x q z V : Nat} (hm : 0 < m) (hR : 0 < R) (hc : Nat.Coprime R m) (hV : V = x + m * q) (h0 : V % R = 0) (hz : x % m = z * R % m) : V / R % m = z % m := by
  refine cancel hm hc (Nat.mod_lt _ hm) ?_
  have e : V / R * R = V := Nat.div_mul_cancel (Nat.dvd_of_mod_eq_zero h0)
  rw [Nat.mul_mod, Nat.mod_mod, ← Nat.mul_mod, e, hV, Nat.add_mul_mod_self_left, hz]
theorem neg_inv {w m d r : Nat} (hw : 1 ≤ w) (hd : d = m % 2 ^ w) (h : d * r % 2 ^ w = 1) : (((-(r : Int)) % 2 ^ w).toNat * m + 1) % 2 ^ w = 0 ∧ ((-(r : Int)) % 2 ^ w).toNat < 2 ^ w := by
  have hp : (0 : Int) < 2 ^ w := Int.pow_pos (by decide)
  have hc : ((2 ^ w : Nat) : Int) = 2 ^ w := by simp
  have h0 := Int.emod_nonneg (-(r : Int)) (show (2 : Int) ^ w ≠ 0 by omega)
  have h1 := Int.emod_lt_of_pos (-(r : Int)) hp
  have e := Int.toNat_of_nonneg h0
  refine ⟨?_, by omega⟩
  have hm : m * r % 2 ^ w = 1 := by rw [← h, hd, Nat.mod_mul_mod]
  obtain ⟨q, hq⟩ : ∃ q : Nat, m * r = 1 + 2 ^ w * q := ⟨m * r / 2 ^ w, by have := Nat.mod_add_div (m * r) (2 ^ w); omega⟩
  have hqi : (m : Int) * r = 1 + 2 ^ w * q := by
    have := congrArg (fun (n : Nat) => (n : Int)) hq
    simpa using this
  have hdv := Int.mul_ediv_add_emod (-(r : Int)) (2 ^ w)
  generalize (-(r : Int)) / 2 ^ w = u at *
  generalize (-(r : Int)) % 2 ^ w = v at *
  have key : ((v.toNat * m + 1 : Nat) : Int) = 2 ^ w * (-(u * m) - q) := by
    rw [Int.natCast_add, Int.natCast_mul, e]
    have hv : v = -(r : Int) - 2 ^ w * u := by omega
    rw [hv]
    have : (-(r : Int) - 2 ^ w * u) * m = -(m * r) - 2 ^ w * (u * m) := by grind
    rw [this, hqi]; grind
  have : ((2 ^ w : Nat) : Int) ∣ ((v.toNat * m + 1 : Nat) : Int) := ⟨_, by rw [hc]; exact key⟩
  exact Nat.mod_eq_zero_of_dvd (Int.natCast_dvd_natCast.mp this)
theorem num_compl {b : Nat} (hb : 2 ≤ b) (x : Nat) : ∀ n : Nat, num b ((List.range n).map fun i => b - 1 - x / b ^ i % b) + x % b ^ n + 1 = b ^ n
  | 0 => by simp [num, Nat.mod_one]
  | n + 1 => by
    have ih := num_compl hb x n
    rw [List.range_succ, List.map_append, List.map_singleton, num_snoc, Nat.mod_pow_succ]
    simp only [List.length_map, List.length_range]
    have h1 : x / b ^ n % b < b := Nat.mod_lt _ (by (first | lia | omega))
    have h2 : b ^ n * (b - 1 - x / b ^ n % b) + b ^ n * (x / b ^ n % b) = b ^ n * (b - 1) := by
      rw [← Nat.mul_add]; congr 1; (first | lia | omega)
    have h3 : b ^ (n + 1) = b ^ n * (b - 1) + b ^ n := by
      rw [Nat.pow_succ, ← Nat.mul_succ]; congr 1; (first | lia | omega)
    (first | lia | omega)
theorem Dig_compl {b : Nat} (hb : 2 ≤ b) (x n : Nat) : Dig b ((List.range n).map fun i => b - 1 - x / b ^ i % b) := fun e m => by
  obtain ⟨i, _, rfl⟩ := List.mem_map.mp m
  (first | lia | omega)
theorem mod_out (a m : Nat) : ∃ q : Int, ((a % m : Nat) : Int) = a - m * q := ⟨((a / m : Nat) : Int), by
  have := Nat.div_add_mod a m
  have h2 := congrArg (fun (n : Nat) => (n : Int)) this
  simp only [Int.natCast_add, Int.natCast_mul] at h2
  (first | lia | omega)⟩
theorem mod_one_of {a m : Nat} (hm : 2 ≤ m) {q : Int} (h : (a : Int) - 1 = m * q) : a % m = 1 := by
  have h1 : ((a : Nat) : Int) % (m : Int) = 1 := by
    rw [show (a : Int) = 1 + m * q by (first | lia | omega), Int.add_mul_emod_self_left]
    exact Int.emod_eq_of_lt (by decide) (by (first | lia | omega))
  have h2 : ((a % m : Nat) : Int) = 1 := by rw [Int.natCast_emod]; exact h1
  (first | lia | omega)
theorem hensel_step {M M' c x f : Nat} (hM : 2 ≤ M') (hc : M * M = M' * c) (h : x * f % M = 1) :
    x * (f * ((((M' - x % M' * f % M') % M') + 2) % M') % M') % M' = 1 := by
  have hr : x % M' * f % M' < M' := Nat.mod_lt _ (by (first | lia | omega))
  obtain ⟨q1, e1⟩ := mod_out x M'
  obtain ⟨q2, e2⟩ := mod_out (x % M' * f) M'
  obtain ⟨q3, e3⟩ := mod_out (M' - x % M' * f % M') M'
  obtain ⟨q4, e4⟩ := mod_out ((M' - x % M' * f % M') % M' + 2) M'
  obtain ⟨q5, e5⟩ := mod_out (f * ((((M' - x % M' * f % M') % M') + 2) % M')) M'
  obtain ⟨t, e6⟩ := mod_out (x * f) M
  rw [h] at e6
  have e0 : ((M' - x % M' * f % M' : Nat) : Int) = M' - ((x % M' * f % M' : Nat) : Int) := by (first | lia | omega)
  have ec : (M : Int) * M = M' * c := by rw [← Int.natCast_mul, ← Int.natCast_mul, hc]
  rw [Int.natCast_mul] at e2 e5 e6
  rw [Int.natCast_add] at e4
  rw [e1] at e2
  rw [e2] at e0
  rw [e0] at e3
  rw [e3] at e4
  rw [e4] at e5
  have e7 : (x : Int) * f = 1 + M * t := by (first | lia | omega)
  refine mod_one_of hM (q := -(c : Int) * t * t + x * f * (q1 * f + q2 + 1 - q3 - q4) - x * q5) ?_
  rw [Int.natCast_mul, e5]
  have e8 : (1 + (M : Int) * t) * (2 - (1 + M * t)) - 1 = - (M' * c) * t * t := by rw [← ec]; grind
  have e9 : (x : Int) * f * (2 - x * f) - 1 = - (M' * c) * t * t := by rw [e7]; exact e8
  grind
theorem pow_sq {b s s' : Nat} (h : s' ≤ 2 * s) : b ^ s * b ^ s = b ^ s' * b ^ (2 * s - s') := by
  rw [← Nat.pow_add, ← Nat.pow_add]; congr 1; (first | lia | omega)
theorem mod_eq_iff_dvd {a b m : Nat} (h : b ≤ a) : a % m = b % m ↔ m ∣ a - b := by
  constructor
  · intro e
    have h1 := Nat.div_add_mod a m
    have h2 := Nat.div_add_mod b m
    refine ⟨a / m - b / m, ?_⟩
    rw [Nat.mul_sub]; (first | lia | omega)
  · rintro ⟨c, hc⟩
    rw [show a = b + m * c by (first | lia | omega), Nat.add_mul_mod_self_left]
theorem crt {a b o N : Nat} (hc : Nat.Coprime N o) (h1 : a % o = b % o) (h2 : a % N = b % N) : a % (N * o) = b % (N * o) := by
  rcases Nat.le_total b a with h | h
  · rw [mod_eq_iff_dvd h] at *
    exact hc.mul_dvd_of_dvd_of_dvd h2 h1
  · have h1' := h1.symm
    have h2' := h2.symm
    rw [mod_eq_iff_dvd h] at h1' h2'
    refine Eq.symm ?_
    rw [mod_eq_iff_dvd h]
    exact hc.mul_dvd_of_dvd_of_dvd h2' h1'
theorem garner {y o N inv way : Nat} (hN : 2 ≤ N) (ho : 0 < o) (hc : Nat.Coprime N o) (hi : o * inv % N = 1) (hw : (way + y % o) % N = y % N) : y % o + o * (way * inv % N) = y % (N * o) := by
  have h0 : way * inv % N < N := Nat.mod_lt _ (by (first | lia | omega))
  have h1 : y % o < o := Nat.mod_lt _ ho
  have hlt : y % o + o * (way * inv % N) < N * o := by
    have h2 := Nat.mul_le_mul_left o (Nat.succ_le_of_lt h0)
    rw [Nat.mul_succ, Nat.mul_comm o N] at h2
    (first | lia | omega)
  rw [← Nat.mod_eq_of_lt hlt]
  refine crt hc ?_ ?_
  · rw [Nat.add_mul_mod_self_left, Nat.mod_mod]
  · rw [← hw, Nat.add_comm way, Nat.add_mod, Nat.add_mod (y % o) way]
    congr 2
    have h3 : o * (way * inv % N) % N = o * (way * inv) % N := by rw [Nat.mul_mod, Nat.mod_mod, ← Nat.mul_mod]
    rw [h3, show o * (way * inv) = way * (o * inv) by grind, Nat.mul_mod, hi, Nat.mul_one, Nat.mod_mod]
noncomputable def wayOf (oth bel N : Nat) : Nat := if bel ≤ oth then oth - bel else oth + N - bel
theorem way_lt {oth bel N : Nat} (h1 : oth < N) (h2 : bel < N) : wayOf oth bel N < N := by
  unfold wayOf; split <;> (first | lia | omega)
theorem way_ok {one oth N : Nat} (h1 : oth < N) : (wayOf oth (one % N) N + one) % N = oth := by
  have h2 : one % N < N := Nat.mod_lt _ (by (first | lia | omega))
  rw [Nat.add_mod, Nat.mod_eq_of_lt (way_lt h1 h2)]
  unfold wayOf
  split
  · rw [Nat.sub_add_cancel (by (first | lia | omega))]; exact Nat.mod_eq_of_lt h1
  · rw [Nat.sub_add_cancel (by (first | lia | omega)), Nat.add_mod_right]; exact Nat.mod_eq_of_lt h1
theorem inv_down {o f K N : Nat} (hN : 2 ≤ N) (hd : N ∣ K) (h : o * f % K = 1) : o * f % N = 1 := by
  rw [← Nat.mod_mod_of_dvd _ hd, h, Nat.mod_eq_of_lt hN]
theorem limbs_for {n w : Nat} (hw : 2 ≤ w ∧ w ≤ 9) (hn : 1 ≤ n) : 1 ≤ (n + w - 1) / w ∧ n ≤ w * ((n + w - 1) / w) ∧ w * ((n + w - 1) / w) ≤ n + w - 1 := by
  have h1 := Nat.div_add_mod (n + w - 1) w
  have h2 := Nat.mod_lt (n + w - 1) (show w > 0 by (first | lia | omega))
  have h3 : 1 ≤ (n + w - 1) / w := (Nat.le_div_iff_mul_le (by (first | lia | omega))).mpr (by (first | lia | omega))
  (first | lia | omega)
end Mine
section
open PySem PySem.W PyProof.Rows PySem.Spec PySem.Calls
namespace Mine
theorem ex1 {α0 : Type} {P : α0 → Prop} {G : Prop} (h : ∃ a, P a) (k : ∀ a, P a → G) : G := h.elim k
theorem exI1 {α0 : Type} {P : α0 → Prop} (a : α0) (h : P a) : ∃ a, P a := ⟨a, h⟩
theorem ex2 {α0 α1 : Type} {P : α0 → α1 → Prop} {G : Prop} (h : ∃ a b, P a b) (k : ∀ a b, P a b → G) : G := h.elim fun a h => ex1 h (k a)
theorem exI2 {α0 α1 : Type} {P : α0 → α1 → Prop} (a : α0) (b : α1) (h : P a b) : ∃ a b, P a b := ⟨a, b, h⟩
theorem ex3 {α0 α1 α2 : Type} {P : α0 → α1 → α2 → Prop} {G : Prop} (h : ∃ a b c, P a b c) (k : ∀ a b c, P a b c → G) : G := h.elim fun a h => ex2 h (k a)
theorem exI3 {α0 α1 α2 : Type} {P : α0 → α1 → α2 → Prop} (a : α0) (b : α1) (c : α2) (h : P a b c) : ∃ a b c, P a b c := ⟨a, b, c, h⟩
theorem ex4 {α0 α1 α2 α3 : Type} {P : α0 → α1 → α2 → α3 → Prop} {G : Prop} (h : ∃ a b c d, P a b c d) (k : ∀ a b c d, P a b c d → G) : G := h.elim fun a h => ex3 h (k a)
theorem exI4 {α0 α1 α2 α3 : Type} {P : α0 → α1 → α2 → α3 → Prop} (a : α0) (b : α1) (c : α2) (d : α3) (h : P a b c d) : ∃ a b c d, P a b c d := ⟨a, b, c, d, h⟩
theorem ex5 {α0 α1 α2 α3 α4 : Type} {P : α0 → α1 → α2 → α3 → α4 → Prop} {G : Prop} (h : ∃ a b c d e, P a b c d e) (k : ∀ a b c d e, P a b c d e → G) : G := h.elim fun a h => ex4 h (k a)
theorem exI5 {α0 α1 α2 α3 α4 : Type} {P : α0 → α1 → α2 → α3 → α4 → Prop} (a : α0) (b : α1) (c : α2) (d : α3) (e : α4) (h : P a b c d e) : ∃ a b c d e, P a b c d e := ⟨a, b, c, d, e, h⟩
theorem ex6 {α0 α1 α2 α3 α4 α5 : Type} {P : α0 → α1 → α2 → α3 → α4 → α5 → Prop} {G : Prop} (h : ∃ a b c d e f, P a b c d e f) (k : ∀ a b c d e f, P a b c d e f → G) : G := h.elim fun a h => ex5 h (k a)
theorem exI6 {α0 α1 α2 α3 α4 α5 : Type} {P : α0 → α1 → α2 → α3 → α4 → α5 → Prop} (a : α0) (b : α1) (c : α2) (d : α3) (e : α4) (f : α5) (h : P a b c d e f) : ∃ a b c d e f, P a b c d e f := ⟨a, b, c, d, e, f, h⟩
theorem ex7 {α0 α1 α2 α3 α4 α5 α6 : Type} {P : α0 → α1 → α2 → α3 → α4 → α5 → α6 → Prop} {G : Prop} (h : ∃ a b c d e f g, P a b c d e f g) (k : ∀ a b c d e f g, P a b c d e f g → G) : G := h.elim fun a h => ex6 h (k a)
theorem exI7 {α0 α1 α2 α3 α4 α5 α6 : Type} {P : α0 → α1 → α2 → α3 → α4 → α5 → α6 → Prop} (a : α0) (b : α1) (c : α2) (d : α3) (e : α4) (f : α5) (g : α6) (h : P a b c d e f g) : ∃ a b c d e f g, P a b c d e f g := ⟨a, b, c, d, e, f, g, h⟩
theorem an2 {A0 A1 G : Prop} (h : A0 ∧ A1) (k : A0 → A1 → G) : G := k h.1 h.2
theorem an3 {A0 A1 A2 G : Prop} (h : A0 ∧ A1 ∧ A2) (k : A0 → A1 → A2 → G) : G := an2 h.2 (k h.1)
theorem an4 {A0 A1 A2 A3 G : Prop} (h : A0 ∧ A1 ∧ A2 ∧ A3) (k : A0 → A1 → A2 → A3 → G) : G := an3 h.2 (k h.1)
theorem an5 {A0 A1 A2 A3 A4 G : Prop} (h : A0 ∧ A1 ∧ A2 ∧ A3 ∧ A4) (k : A0 → A1 → A2 → A3 → A4 → G) : G := an4 h.2 (k h.1)
theorem an6 {A0 A1 A2 A3 A4 A5 G : Prop} (h : A0 ∧ A1 ∧ A2 ∧ A3 ∧ A4 ∧ A5) (k : A0 → A1 → A2 → A3 → A4 → A5 → G) : G := an5 h.2 (k h.1)
theorem an7 {A0 A1 A2 A3 A4 A5 A6 G : Prop} (h : A0 ∧ A1 ∧ A2 ∧ A3 ∧ A4 ∧ A5 ∧ A6) (k : A0 → A1 → A2 → A3 → A4 → A5 → A6 → G) : G := an6 h.2 (k h.1)
theorem an8 {A0 A1 A2 A3 A4 A5 A6 A7 G : Prop} (h : A0 ∧ A1 ∧ A2 ∧ A3 ∧ A4 ∧ A5 ∧ A6 ∧ A7) (k : A0 → A1 → A2 → A3 → A4 → A5 → A6 → A7 → G) : G := an7 h.2 (k h.1)
theorem an9 {A0 A1 A2 A3 A4 A5 A6 A7 A8 G : Prop} (h : A0 ∧ A1 ∧ A2 ∧ A3 ∧ A4 ∧ A5 ∧ A6 ∧ A7 ∧ A8) (k : A0 → A1 → A2 → A3 → A4 → A5 → A6 → A7 → A8 → G) : G := an8 h.2 (k h.1)
theorem an10 {A0 A1 A2 A3 A4 A5 A6 A7 A8 A9 G : Prop} (h : A0 ∧ A1 ∧ A2 ∧ A3 ∧ A4 ∧ A5 ∧ A6 ∧ A7 ∧ A8 ∧ A9) (k : A0 → A1 → A2 → A3 → A4 → A5 → A6 → A7 → A8 → A9 → G) : G := an9 h.2 (k h.1)
theorem an11 {A0 A1 A2 A3 A4 A5 A6 A7 A8 A9 A10 G : Prop} (h : A0 ∧ A1 ∧ A2 ∧ A3 ∧ A4 ∧ A5 ∧ A6 ∧ A7 ∧ A8 ∧ A9 ∧ A10) (k : A0 → A1 → A2 → A3 → A4 → A5 → A6 → A7 → A8 → A9 → A10 → G) : G := an10 h.2 (k h.1)
theorem an12 {A0 A1 A2 A3 A4 A5 A6 A7 A8 A9 A10 A11 G : Prop} (h : A0 ∧ A1 ∧ A2 ∧ A3 ∧ A4 ∧ A5 ∧ A6 ∧ A7 ∧ A8 ∧ A9 ∧ A10 ∧ A11) (k : A0 → A1 → A2 → A3 → A4 → A5 → A6 → A7 → A8 → A9 → A10 → A11 → G) : G := an11 h.2 (k h.1)
theorem an13 {A0 A1 A2 A3 A4 A5 A6 A7 A8 A9 A10 A11 A12 G : Prop} (h : A0 ∧ A1 ∧ A2 ∧ A3 ∧ A4 ∧ A5 ∧ A6 ∧ A7 ∧ A8 ∧ A9 ∧ A10 ∧ A11 ∧ A12) (k : A0 → A1 → A2 → A3 → A4 → A5 → A6 → A7 → A8 → A9 → A10 → A11 → A12 → G) : G := an12 h.2 (k h.1)
theorem an14 {A0 A1 A2 A3 A4 A5 A6 A7 A8 A9 A10 A11 A12 A13 G : Prop} (h : A0 ∧ A1 ∧ A2 ∧ A3 ∧ A4 ∧ A5 ∧ A6 ∧ A7 ∧ A8 ∧ A9 ∧ A10 ∧ A11 ∧ A12 ∧ A13) (k : A0 → A1 → A2 → A3 → A4 → A5 → A6 → A7 → A8 → A9 → A10 → A11 → A12 → A13 → G) : G := an13 h.2 (k h.1)
theorem an15 {A0 A1 A2 A3 A4 A5 A6 A7 A8 A9 A10 A11 A12 A13 A14 G : Prop} (h : A0 ∧ A1 ∧ A2 ∧ A3 ∧ A4 ∧ A5 ∧ A6 ∧ A7 ∧ A8 ∧ A9 ∧ A10 ∧ A11 ∧ A12 ∧ A13 ∧ A14) (k : A0 → A1 → A2 → A3 → A4 → A5 → A6 → A7 → A8 → A9 → A10 → A11 → A12 → A13 → A14 → G) : G := an14 h.2 (k h.1)
inductive AV where
  | int (i : Int)
  | bool (b : Bool)
  | none
  | str (x : Str)
  | ref (a : Addr)
noncomputable def VR (v : Value) : AV → Prop
  | .int i => ∃ t, v = .int i t
  | .bool b => v = .bool b
  | .none => v = .none
  | .str x => ∃ t, v = .str x t
  | .ref a => v = .ref a
inductive VRs : List Value → List AV → Prop
  | nil : VRs [] []
  | cons {v av vs avs} : VR v av → VRs vs avs → VRs (v :: vs) (av :: avs)
inductive AObj where
  | list (xs : List AV)
  | tup (xs : List AV)
  | raw (o : Obj)
  | cell (x : AV)
structure Hp where
  rd : Addr → Option AObj
  own : Addr → Prop
structure Stt where
  loc : List (Option AV)
  H : Hp
noncomputable def Hp.put (H : Hp) (r : Addr) (x : AObj) : Hp := ⟨fun a => if a = r then some x else H.rd a, fun a => a = r ∨ H.own a⟩
noncomputable def Hp.set (H : Hp) (r : Addr) (x : AObj) : Hp := ⟨fun a => if a = r then some x else H.rd a, H.own⟩
noncomputable def HObj (h : Heap) (a : Addr) : AObj → Prop
  | .list xs => ∃ vs, h.PlainList a vs.toArray ∧ VRs vs xs
  | .tup xs => ∃ vs, IsTup h a vs.toArray ∧ VRs vs xs
  | .raw o => h.get? a = some o
  | .cell x => ∃ v, h.IsCell a (some v) ∧ VR v x
structure Gs where
  prog : Program
  w : World
  K : Frag
  B : Heap
structure Gs.Ok (g : Gs) : Prop where
  X : g.K.In g.B
  T : ∃ p loose mean mg mb, Top p loose mean mg mb g.B
structure HGood (B : Heap) (exm : Addr → Prop) (H : Hp) (h : Heap) : Prop where
  hr : ∀ a ao, H.rd a = some ao → HObj h a ao ∧ ¬ exm a
  ow : ∀ a, H.own a → ¬ exm a ∧ B.get? a = none
  bb : ∀ b o, B.get? b = some o → h.get? b = some o
  al : ∀ a, H.own a → h.get? a ≠ none
structure HStep (exm : Addr → Prop) (H : Hp) (h : Heap) (H' : Hp) (h' : Heap) : Prop where
  keep : ∀ b o, h.get? b = some o → ¬ exm b → ¬ H.own b → h'.get? b = some o
  alive : ∀ b, h.get? b ≠ none → h'.get? b ≠ none
  own : ∀ a, H'.own a → H.own a ∨ h.get? a = none
  rd : ∀ a, H'.rd a ≠ none → H.rd a ≠ none ∨ h.get? a = none
theorem HStep.refl {exm : Addr → Prop} {H : Hp} {h : Heap} : HStep exm H h H h :=
  ⟨fun _ _ e _ _ => e, fun _ e => e, fun _ e => .inl e, fun _ e => .inl e⟩
theorem HStep.trans {exm : Addr → Prop} {H H' H'' : Hp} {h h' h'' : Heap} (x : HStep exm H h H' h') (y : HStep exm H' h' H'' h'') : HStep exm H h H'' h'' := by
  have gone : ∀ a, h'.get? a = none → h.get? a = none := fun a e => by
    cases q : h.get? a with
    | none => rfl
    | some o => exact absurd e (x.alive a (by rw [q]; intro z; cases z))
  refine ⟨fun b o e n1 n2 => y.keep b o (x.keep b o e n1 n2) n1 fun q => ?_, fun b e => y.alive b (x.alive b e), fun a e => ?_, fun a e => ?_⟩
  · rcases x.own b q with r | r
    · exact n2 r
    · rw [e] at r; cases r
  · rcases y.own a e with r | r
    · exact x.own a r
    · exact .inr (gone a r)
  · rcases y.rd a e with r | r
    · exact x.rd a r
    · exact .inr (gone a r)
structure Fm where
  g : Gs
  D : Nat
  A : Around
  env : Env
  nm : List Str
noncomputable abbrev Fm.M (F : Fm) : Model := model F.g.prog F.g.w
noncomputable def Fm.exm (F : Fm) (a : Addr) : Prop := a = F.env.locals ∨ ∃ x, (x, a) ∈ F.env.cells
structure Fm.Ok (F : Fm) : Prop where
  g : F.g.Ok
  hh : F.A.handled = none
  room : F.A.depth + F.D < recursionLimit
  units : F.A.units + 8 * F.D + 128 < cLine
  kind : F.env.scope.kind = .function
  glob : F.env.globals = mainGlobals
  bui : F.env.builtins = builtinsNs
  Lb : F.g.B.objs.size ≤ F.env.locals
  Cb : ∀ c ∈ F.env.cells, F.g.B.get? c.2 = none ∧ c.2 ≠ F.env.locals
  apart : F.env.cells.Pairwise fun x y => x.2 ≠ y.2
  nd : F.nm.Nodup
noncomputable def Bnd (env : Env) (m : Str → Option Value) (h : Heap) (x : Str) (v : Value) : Prop :=
  (env.kindOf x = some .local ∧ m x = some v) ∨
  ((env.kindOf x = some .cell ∨ (env.kindOf x = some .free ∧ (x == ("__classdict__" : Str)) = false)) ∧ ∃ c, env.cells.lookup x = some c ∧ h.IsCell c (some v))
structure Gd (F : Fm) (σ : Stt) (s : Shared) : Prop where
  hg : HGood F.g.B F.exm σ.H s.heap
  ns : ∃ m, s.heap.Ns F.env.locals m ∧ ∀ (i : Nat) (x : Str) (av : AV), F.nm[i]? = some x → σ.loc[i]? = some (some av) → ∃ v, VR v av ∧ Bnd F.env m s.heap x v
  cells : ∀ c ∈ F.env.cells, ∃ v, s.heap.IsCell c.2 v
structure Sp (F : Fm) (σ : Stt) (s : Shared) (σ' : Stt) (s' : Shared) : Prop where
  sh : ∃ h' tk', s' = { s with heap := h', toks := tk' }
  hs : HStep F.exm σ.H s.heap σ'.H s'.heap
theorem Sp.refl {F : Fm} {σ : Stt} {s : Shared} : Sp F σ s σ s := ⟨⟨_, _, rfl⟩, .refl⟩
theorem Sp.trans {F : Fm} {σ σ' σ'' : Stt} {s s' s'' : Shared} (x : Sp F σ s σ' s') (y : Sp F σ' s' σ'' s'') : Sp F σ s σ'' s'' := by
  obtain ⟨⟨h', t', e⟩, p⟩ := x
  obtain ⟨⟨h'', t'', e'⟩, q⟩ := y
  exact ⟨⟨h'', t'', by rw [e', e]⟩, p.trans q⟩
noncomputable abbrev Pr (β : Type) := (β → Stt → Prop) → Stt → Prop
noncomputable def bnd {α β : Type} (W : Pr α) (k : α → Pr β) : Pr β := fun Q => W fun a => k a Q
theorem bnd_eq {α β : Type} {W : Pr α} {k : α → Pr β} {Q : β → Stt → Prop} : bnd W k Q = W fun a => k a Q := rfl
noncomputable def Pst (F : Fm) {α β : Type} (R : α → β → Prop) (Q : β → Stt → Prop) (σ : Stt) (s : Shared) (v : α) (s' : Shared) : Prop :=
  ∃ b σ', R v b ∧ Q b σ' ∧ Gd F σ' s' ∧ Sp F σ s σ' s'
noncomputable def Tr (F : Fm) {α β : Type} (R : α → β → Prop) (t : Sem α) (W : Pr β) : Prop :=
  F.Ok → ∀ σ s Q, Gd F σ s → W Q σ → wpAny F.M F.A t (Pst F R Q σ s) (fun _ _ => False) s
noncomputable abbrev TrE (F : Fm) (e : Expr) (W : Pr AV) : Prop := Tr F VR (eval e F.env) W
noncomputable abbrev TrC (F : Fm) (e : Expr) (W : Pr Bool) : Prop := Tr F Eq (isTrue e F.env (eval e F.env)) W
theorem Tr.use {F : Fm} {α β : Type} {R : α → β → Prop} {t : Sem α} {W : Pr β} (h : Tr F R t W) (ok : F.Ok) {σ : Stt} {s : Shared} {Q : β → Stt → Prop} (hg : Gd F σ s) (hW : W Q σ)
    {Q' : α → Shared → Prop} (k : ∀ v s' b σ', R v b → Q b σ' → Gd F σ' s' → Sp F σ s σ' s' → Q' v s') : wpAny F.M F.A t Q' (fun _ _ => False) s :=
  wpAny_mono (h ok σ s Q hg hW) (fun v s' ⟨b, σ', a1, a2, a3, a4⟩ => k v s' b σ' a1 a2 a3 a4) fun _ _ x => x
theorem Pst.of {F : Fm} {α β : Type} {R : α → β → Prop} {Q : β → Stt → Prop} {σ : Stt} {s : Shared} {v : α} {s' : Shared} {b : β} {σ' : Stt} (h1 : R v b) (h2 : Q b σ') (h3 : Gd F σ' s') (h4 : Sp F σ s σ' s') : Pst F R Q σ s v s' := ⟨b, σ', h1, h2, h3, h4⟩
theorem Pst.after {F : Fm} {α β : Type} {R : α → β → Prop} {Q : β → Stt → Prop} {σ σ₁ : Stt} {s s₁ : Shared} {v : α} {s' : Shared} (st : Sp F σ s σ₁ s₁) (p : Pst F R Q σ₁ s₁ v s') : Pst F R Q σ s v s' := by
  obtain ⟨b, σ', a1, a2, a3, a4⟩ := p
  exact ⟨b, σ', a1, a2, a3, st.trans a4⟩
noncomputable def Grown (F : Fm) (h h' : Heap) : Prop := ∀ b o, h.get? b = some o → h'.get? b = some o
theorem alive_of {h h' : Heap} (k : ∀ b o, h.get? b = some o → h'.get? b = some o) (b : Addr) (e : h.get? b ≠ none) : h'.get? b ≠ none := by
  cases q : h.get? b with
  | none => exact absurd q e
  | some o => rw [k b o q]; intro z; cases z
theorem some_ne {α : Type} {o : Option α} {x : α} (h : o = some x) : o ≠ none := by rw [h]; intro z; cases z
theorem HObj.alive {h : Heap} {a : Addr} {ao : AObj} (x : HObj h a ao) : h.get? a ≠ none := by
  cases ao with
  | list xs => obtain ⟨vs, ⟨n, e⟩, _⟩ := x; exact some_ne e
  | tup xs => obtain ⟨vs, ⟨o, e, _⟩, _⟩ := x; exact some_ne e
  | raw o => exact some_ne (x : h.get? a = some o)
  | cell y => obtain ⟨v, ⟨o, e, _⟩, _⟩ := x; exact some_ne e
theorem HObj.keeps {h h' : Heap} {a : Addr} {ao : AObj} (x : HObj h a ao) (k : ∀ o, h.get? a = some o → h'.get? a = some o) : HObj h' a ao := by
  cases ao with
  | list xs => obtain ⟨vs, p, q⟩ := x; exact ⟨vs, p.at k, q⟩
  | tup xs => obtain ⟨vs, ⟨o, ho, r⟩, q⟩ := x; exact ⟨vs, ⟨o, k _ ho, r⟩, q⟩
  | raw o => exact k _ x
  | cell y => obtain ⟨v, ⟨o, e, r⟩, q⟩ := x; exact ⟨v, ⟨o, k _ e, r⟩, q⟩
theorem Bnd.keeps {env : Env} {m : Str → Option Value} {h h' : Heap} {x : Str} {v : Value} (b : Bnd env m h x v) (k : ∀ b o, h.get? b = some o → h'.get? b = some o) : Bnd env m h' x v := by
  rcases b with b | ⟨b1, c, b2, b3⟩
  · exact .inl b
  · exact .inr ⟨b1, c, b2, b3.keeps k⟩
theorem Gd.grow {F : Fm} {σ : Stt} {s : Shared} (x : Gd F σ s) {h' : Heap} {tk : Nat} (k : ∀ b o, s.heap.get? b = some o → h'.get? b = some o) : Gd F σ { s with heap := h', toks := tk } := by
  obtain ⟨⟨hr, ow, bb, al⟩, ⟨m, hm, hl⟩, cl⟩ := x
  refine ⟨⟨fun a ao e => ⟨(hr a ao e).1.keeps (k a), (hr a ao e).2⟩, ow, fun b o e => k b o (bb b o e), fun a e => alive_of k a (al a e)⟩, ⟨m, hm.keeps k, fun i y av h1 h2 => ?_⟩, fun c hc => ?_⟩
  · obtain ⟨v, q1, q2⟩ := hl i y av h1 h2
    exact ⟨v, q1, q2.keeps k⟩
  · obtain ⟨v, q⟩ := cl c hc
    exact ⟨v, q.keeps k⟩
theorem Sp.grow {F : Fm} {σ : Stt} {s : Shared} {h' : Heap} {tk : Nat} (k : ∀ b o, s.heap.get? b = some o → h'.get? b = some o) : Sp F σ s σ { s with heap := h', toks := tk } :=
  ⟨⟨_, _, rfl⟩, ⟨fun b o e _ _ => k b o e, alive_of k, fun _ e => .inl e, fun _ e => .inl e⟩⟩
theorem Gd.toks {F : Fm} {σ : Stt} {s : Shared} (x : Gd F σ s) {tk : Nat} : Gd F σ { s with toks := tk } := x.grow (h' := s.heap) fun _ _ e => e
theorem Sp.toks {F : Fm} {σ : Stt} {s : Shared} {tk : Nat} : Sp F σ s σ { s with toks := tk } := Sp.grow (h' := s.heap) fun _ _ e => e
theorem Gd.fr {F : Fm} (ok : F.Ok) {σ : Stt} {s : Shared} (x : Gd F σ s) : ∃ m, Fr F.g.B F.env.locals s.heap m := by
  obtain ⟨⟨hr, ow, bb, al⟩, ⟨m, hm, hl⟩, cl⟩ := x
  exact ⟨m, hm, bb, ok.Lb⟩
theorem Gd.put {F : Fm} {σ : Stt} {s : Shared} (x : Gd F σ s) {r : Addr} {ao : AObj} (ho : HObj s.heap r ao) (hx : ¬ F.exm r) (hB : F.g.B.get? r = none) : Gd F ⟨σ.loc, σ.H.put r ao⟩ s := by
  obtain ⟨⟨hr, ow, bb, al⟩, ns, cl⟩ := x
  refine ⟨⟨fun a bo e => ?_, fun a e => ?_, bb, fun a e => e.elim (fun z => z ▸ ho.alive) (al a)⟩, ns, cl⟩
  · dsimp only [Hp.put] at e
    split at e
    · cases e; subst_vars; exact ⟨ho, hx⟩
    · exact hr a bo e
  · rcases e with rfl | e
    · exact ⟨hx, hB⟩
    · exact ow a e
theorem new_obj {F : Fm} (ok : F.Ok) {σ : Stt} {s : Shared} (x : Gd F σ s) {h' : Heap} {tk : Nat} {r : Addr} {ao : AObj} (k : ∀ b o, s.heap.get? b = some o → h'.get? b = some o) (hn : s.heap.get? r = none) (ho : HObj h' r ao) :
    Gd F ⟨σ.loc, σ.H.put r ao⟩ { s with heap := h', toks := tk } ∧ Sp F σ s ⟨σ.loc, σ.H.put r ao⟩ { s with heap := h', toks := tk } ∧ σ.H.rd r = none := by
  have hx : ¬ F.exm r := by
    rintro (rfl | ⟨y, hy⟩)
    · obtain ⟨m, ⟨o, _, _, e, _⟩, _⟩ := x.ns; rw [hn] at e; cases e
    · obtain ⟨v, o, e, _⟩ := x.cells _ hy; rw [hn] at e; cases e
  have hB : F.g.B.get? r = none := by
    cases q : F.g.B.get? r with
    | none => rfl
    | some o => have := x.hg.bb _ _ q; rw [hn] at this; cases this
  refine ⟨(x.grow k).put ho hx hB, ⟨⟨_, _, rfl⟩, ⟨fun b o e _ _ => k b o e, alive_of k, fun a e => ?_, fun a e => ?_⟩⟩, ?_⟩
  · rcases e with rfl | e
    · exact .inr hn
    · exact .inl e
  · dsimp only [Hp.put] at e
    split at e
    · subst_vars; exact .inr hn
    · exact .inl e
  · cases q : σ.H.rd r with
    | none => rfl
    | some ao' =>
      exfalso
      have z := (x.hg.hr _ _ q).1
      cases ao' with
      | list xs => obtain ⟨vs, ⟨n, e⟩, _⟩ := z; rw [hn] at e; cases e
      | tup xs => obtain ⟨vs, ⟨o, e, _⟩, _⟩ := z; rw [hn] at e; cases e
      | raw o => have e : s.heap.get? r = some o := z; rw [hn] at e; cases e
      | cell y => obtain ⟨v, ⟨o, e, _⟩, _⟩ := z; rw [hn] at e; cases e
theorem empty_get (a : Addr) : ({} : Heap).get? a = none := by
  simp [Heap.get?]
theorem allNews (h : Heap) (L : Addr) : ∃ news : List (Addr × Obj), News {} L h news ∧ ∀ a o, h.get? a = some o → a ≠ L → (a, o) ∈ news := by
  refine ⟨(List.range h.objs.size).filterMap fun a => if a = L then none else (h.get? a).map fun o => (a, o), fun p hp => ?_, fun a o e n => ?_⟩
  · obtain ⟨a, _, q⟩ := List.mem_filterMap.mp hp
    split at q
    · cases q
    · rename_i hL
      cases z : h.get? a with
      | none => rw [z] at q; cases q
      | some o => rw [z] at q; cases q; exact ⟨z, hL, empty_get _⟩
  · refine List.mem_filterMap.mpr ⟨a, List.mem_range.mpr (Heap.lt_size e), ?_⟩
    rw [if_neg n, e]; rfl
theorem Fm.Ok.noL {F : Fm} (ok : F.Ok) : F.g.B.get? F.env.locals = none := by
  cases q : F.g.B.get? F.env.locals with
  | none => rfl
  | some o => exact absurd (Heap.lt_size q) (Nat.not_lt.mpr ok.Lb)
theorem Gd.ledger {F : Fm} (ok : F.Ok) {σ : Stt} {s : Shared} (x : Gd F σ s) : ∃ m news, Fr {} F.env.locals s.heap m ∧ News {} F.env.locals s.heap news ∧
    (∀ h' tk, Fr {} F.env.locals h' m → News {} F.env.locals h' news → Gd F σ { s with heap := h', toks := tk } ∧ Sp F σ s σ { s with heap := h', toks := tk }) := by
  obtain ⟨⟨hr, ow, bb, al⟩, ⟨m, hm, hl⟩, cl⟩ := x
  obtain ⟨news, hN, hall⟩ := allNews s.heap F.env.locals
  refine ⟨m, news, ⟨hm, (fun b o e => by rw [empty_get] at e; cases e), Nat.zero_le _⟩, hN, fun h' tk F' N' => ?_⟩
  have k : ∀ b o, s.heap.get? b = some o → b ≠ F.env.locals → h'.get? b = some o := fun b o e n => (N' _ (hall b o e n)).1
  have isc : ∀ c v, c ≠ F.env.locals → s.heap.IsCell c v → h'.IsCell c v := fun c v n ⟨o, ho, hd⟩ => ⟨o, k _ _ ho n, hd⟩
  refine ⟨⟨⟨fun a ao e => ⟨(hr a ao e).1.keeps fun o q => k _ _ q fun z => (hr a ao e).2 (.inl z), (hr a ao e).2⟩, ow, fun b o e => ?_, fun a e => (Option.ne_none_iff_exists'.mp (al a e)).elim fun o q => some_ne (k a o q fun z => (ow a e).1 (.inl z))⟩, ⟨m, F'.ns, fun i y av h1 h2 => ?_⟩, fun c hc => ?_⟩, ⟨⟨_, _, rfl⟩, ⟨fun b o e n1 n2 => k b o e fun z => n1 (.inl z), fun b e => ?_, fun _ e => .inl e, fun _ e => .inl e⟩⟩⟩
  · refine k b o (bb b o e) fun z => ?_
    rw [z, ok.noL] at e; cases e
  · obtain ⟨v, q1, q2⟩ := hl i y av h1 h2
    refine ⟨v, q1, ?_⟩
    rcases q2 with q2 | ⟨b1, c, b2, b3⟩
    · exact .inl q2
    · exact .inr ⟨b1, c, b2, isc _ _ (ok.Cb _ (mem_of_lookup b2)).2 b3⟩
  · obtain ⟨v, q⟩ := cl c hc
    exact ⟨v, isc _ _ (ok.Cb _ hc).2 q⟩
  · by_cases n : b = F.env.locals
    · obtain ⟨oL, es, ep, q, _⟩ := F'.ns
      rw [n]
      show h'.get? F.env.locals ≠ none
      rw [q]; intro z; cases z
    · show h'.get? b ≠ none
      cases q : s.heap.get? b with
      | none => exact absurd q e
      | some o => rw [k b o q n]; intro z; cases z
theorem new_led {F : Fm} (ok : F.Ok) {σ : Stt} {s : Shared} (x : Gd F σ s) : ∃ m news, Fr {} F.env.locals s.heap m ∧ News {} F.env.locals s.heap news ∧
    (∀ h' tk r ao, Fr {} F.env.locals h' m → News {} F.env.locals h' news → s.heap.get? r = none → HObj h' r ao →
      Gd F ⟨σ.loc, σ.H.put r ao⟩ { s with heap := h', toks := tk } ∧ Sp F σ s ⟨σ.loc, σ.H.put r ao⟩ { s with heap := h', toks := tk } ∧ σ.H.rd r = none) := by
  obtain ⟨m, news, F₀, N₀, k⟩ := x.ledger ok
  refine ⟨m, news, F₀, N₀, fun h' tk r ao F' N' hn ho => ?_⟩
  obtain ⟨g', st⟩ := k h' tk F' N'
  have hx : ¬ F.exm r := by
    rintro (rfl | ⟨y, hy⟩)
    · obtain ⟨m, ⟨o, _, _, e, _⟩, _⟩ := x.ns; rw [hn] at e; cases e
    · obtain ⟨v, o, e, _⟩ := x.cells _ hy; rw [hn] at e; cases e
  have hB : F.g.B.get? r = none := by
    cases q : F.g.B.get? r with
    | none => rfl
    | some o => have := x.hg.bb _ _ q; rw [hn] at this; cases this
  have hq : σ.H.rd r = none := by
    cases q : σ.H.rd r with
    | none => rfl
    | some ao' =>
      exfalso
      have z := (x.hg.hr _ _ q).1
      cases ao' with
      | list xs => obtain ⟨vs, ⟨n, e⟩, _⟩ := z; rw [hn] at e; cases e
      | tup xs => obtain ⟨vs, ⟨o, e, _⟩, _⟩ := z; rw [hn] at e; cases e
      | raw o => have e : s.heap.get? r = some o := z; rw [hn] at e; cases e
      | cell y => obtain ⟨v, ⟨o, e, _⟩, _⟩ := z; rw [hn] at e; cases e
  refine ⟨g'.put ho hx hB, ⟨⟨_, _, rfl⟩, ⟨st.hs.keep, st.hs.alive, fun a e => ?_, fun a e => ?_⟩⟩, hq⟩
  · rcases e with rfl | e
    · exact .inr hn
    · exact .inl e
  · dsimp only [Hp.put] at e
    split at e
    · subst_vars; exact .inr hn
    · exact .inl e
theorem fresh_size (h : Heap) : h.get? h.objs.size = none := by
  cases q : h.get? h.objs.size with
  | none => rfl
  | some o => exact absurd (Heap.lt_size q) (Nat.lt_irrefl _)
theorem VR.i {i : Int} {t : Tok} : VR (.int i t) (.int i) := ⟨t, rfl⟩
theorem VR.s {x : Str} {t : Tok} : VR (.str x t) (.str x) := ⟨t, rfl⟩
theorem VR.b {b : Bool} : VR (.bool b) (.bool b) := rfl
theorem VR.n : VR .none .none := rfl
theorem VR.r {a : Addr} : VR (.ref a) (.ref a) := rfl
theorem VRs.length {vs : List Value} {xs : List AV} (h : VRs vs xs) : vs.length = xs.length := by
  induction h with
  | nil => rfl
  | cons _ _ ih => simp [ih]
theorem VRs.get {vs : List Value} {xs : List AV} (h : VRs vs xs) : ∀ (i : Nat) (x : AV), xs[i]? = some x → ∃ v, vs[i]? = some v ∧ VR v x := by
  induction h with
  | nil => intro i x e; simp at e
  | cons a _ ih =>
    intro i x e
    cases i with
    | zero => simp at e; subst e; exact ⟨_, rfl, a⟩
    | succ i => simpa using ih i x (by simpa using e)
theorem VRs.append {vs us : List Value} {xs ys : List AV} (h : VRs vs xs) (k : VRs us ys) : VRs (vs ++ us) (xs ++ ys) := by
  induction h with
  | nil => exact k
  | cons a _ ih => exact .cons a ih
theorem VRs.take {vs : List Value} {xs : List AV} (h : VRs vs xs) : ∀ n : Nat, VRs (vs.take n) (xs.take n) := by
  induction h with
  | nil => intro n; simp; exact .nil
  | cons a _ ih =>
    intro n
    cases n with
    | zero => exact .nil
    | succ n => exact .cons a (ih n)
theorem VRs.drop {vs : List Value} {xs : List AV} (h : VRs vs xs) : ∀ n : Nat, VRs (vs.drop n) (xs.drop n) := by
  induction h with
  | nil => intro n; simp; exact .nil
  | cons a t ih =>
    intro n
    cases n with
    | zero => exact .cons a t
    | succ n => exact ih n
theorem VRs.set {vs : List Value} {xs : List AV} (h : VRs vs xs) {v : Value} {x : AV} (k : VR v x) : ∀ n : Nat, VRs (vs.set n v) (xs.set n x) := by
  induction h with
  | nil => intro n; simp; exact .nil
  | cons a t ih =>
    intro n
    cases n with
    | zero => exact .cons k t
    | succ n => exact .cons a (ih n)
theorem VRs.replicate {v : Value} {x : AV} (k : VR v x) : ∀ n : Nat, VRs (List.replicate n v) (List.replicate n x)
  | 0 => .nil
  | n + 1 => .cons k (VRs.replicate k n)
theorem VRs.ints {vs : List Value} : ∀ {ns : List Int}, VRs vs (ns.map .int) → IntsAre vs ns := by
  induction vs with
  | nil => intro ns h; cases ns with
    | nil => exact .nil
    | cons _ _ => cases h
  | cons v vs ih =>
    intro ns h
    cases ns with
    | nil => cases h
    | cons n ns =>
      cases h with
      | cons a b => obtain ⟨t, rfl⟩ := a; exact .cons n t (ih b)
theorem VRs.ofInts {vs : List Value} {ns : List Int} (h : IntsAre vs ns) : VRs vs (ns.map .int) := by
  induction h with
  | nil => exact .nil
  | cons n t _ ih => exact .cons ⟨t, rfl⟩ ih
inductive Lk : List Str → Str → Nat → Prop
  | z {x r} : Lk (x :: r) x 0
  | s {y r x i} : Lk r x i → Lk (y :: r) x (i + 1)
theorem lk0 {x : Str} {r : List Str} : Lk (x :: r) x (0) := .z
theorem lk1 {x0 : Str} {x : Str} {r : List Str} : Lk (x0 :: x :: r) x (0 + 1) := .s lk0
theorem lk2 {x0 x1 : Str} {x : Str} {r : List Str} : Lk (x0 :: x1 :: x :: r) x (0 + 1 + 1) := .s lk1
theorem lk3 {x0 x1 x2 : Str} {x : Str} {r : List Str} : Lk (x0 :: x1 :: x2 :: x :: r) x (0 + 1 + 1 + 1) := .s lk2
theorem lk4 {x0 x1 x2 x3 : Str} {x : Str} {r : List Str} : Lk (x0 :: x1 :: x2 :: x3 :: x :: r) x (0 + 1 + 1 + 1 + 1) := .s lk3
theorem lk5 {x0 x1 x2 x3 x4 : Str} {x : Str} {r : List Str} : Lk (x0 :: x1 :: x2 :: x3 :: x4 :: x :: r) x (0 + 1 + 1 + 1 + 1 + 1) := .s lk4
theorem lk6 {x0 x1 x2 x3 x4 x5 : Str} {x : Str} {r : List Str} : Lk (x0 :: x1 :: x2 :: x3 :: x4 :: x5 :: x :: r) x (0 + 1 + 1 + 1 + 1 + 1 + 1) := .s lk5
theorem lk7 {x0 x1 x2 x3 x4 x5 x6 : Str} {x : Str} {r : List Str} : Lk (x0 :: x1 :: x2 :: x3 :: x4 :: x5 :: x6 :: x :: r) x (0 + 1 + 1 + 1 + 1 + 1 + 1 + 1) := .s lk6
theorem lk8 {x0 x1 x2 x3 x4 x5 x6 x7 : Str} {x : Str} {r : List Str} : Lk (x0 :: x1 :: x2 :: x3 :: x4 :: x5 :: x6 :: x7 :: x :: r) x (0 + 1 + 1 + 1 + 1 + 1 + 1 + 1 + 1) := .s lk7
theorem lk9 {x0 x1 x2 x3 x4 x5 x6 x7 x8 : Str} {x : Str} {r : List Str} : Lk (x0 :: x1 :: x2 :: x3 :: x4 :: x5 :: x6 :: x7 :: x8 :: x :: r) x (0 + 1 + 1 + 1 + 1 + 1 + 1 + 1 + 1 + 1) := .s lk8
theorem lk10 {x0 x1 x2 x3 x4 x5 x6 x7 x8 x9 : Str} {x : Str} {r : List Str} : Lk (x0 :: x1 :: x2 :: x3 :: x4 :: x5 :: x6 :: x7 :: x8 :: x9 :: x :: r) x (0 + 1 + 1 + 1 + 1 + 1 + 1 + 1 + 1 + 1 + 1) := .s lk9
theorem lk11 {x0 x1 x2 x3 x4 x5 x6 x7 x8 x9 x10 : Str} {x : Str} {r : List Str} : Lk (x0 :: x1 :: x2 :: x3 :: x4 :: x5 :: x6 :: x7 :: x8 :: x9 :: x10 :: x :: r) x (0 + 1 + 1 + 1 + 1 + 1 + 1 + 1 + 1 + 1 + 1 + 1) := .s lk10
theorem lk12 {x0 x1 x2 x3 x4 x5 x6 x7 x8 x9 x10 x11 : Str} {x : Str} {r : List Str} : Lk (x0 :: x1 :: x2 :: x3 :: x4 :: x5 :: x6 :: x7 :: x8 :: x9 :: x10 :: x11 :: x :: r) x (0 + 1 + 1 + 1 + 1 + 1 + 1 + 1 + 1 + 1 + 1 + 1 + 1) := .s lk11
theorem lk13 {x0 x1 x2 x3 x4 x5 x6 x7 x8 x9 x10 x11 x12 : Str} {x : Str} {r : List Str} : Lk (x0 :: x1 :: x2 :: x3 :: x4 :: x5 :: x6 :: x7 :: x8 :: x9 :: x10 :: x11 :: x12 :: x :: r) x (0 + 1 + 1 + 1 + 1 + 1 + 1 + 1 + 1 + 1 + 1 + 1 + 1 + 1) := .s lk12
theorem lk14 {x0 x1 x2 x3 x4 x5 x6 x7 x8 x9 x10 x11 x12 x13 : Str} {x : Str} {r : List Str} : Lk (x0 :: x1 :: x2 :: x3 :: x4 :: x5 :: x6 :: x7 :: x8 :: x9 :: x10 :: x11 :: x12 :: x13 :: x :: r) x (0 + 1 + 1 + 1 + 1 + 1 + 1 + 1 + 1 + 1 + 1 + 1 + 1 + 1 + 1) := .s lk13
theorem lk15 {x0 x1 x2 x3 x4 x5 x6 x7 x8 x9 x10 x11 x12 x13 x14 : Str} {x : Str} {r : List Str} : Lk (x0 :: x1 :: x2 :: x3 :: x4 :: x5 :: x6 :: x7 :: x8 :: x9 :: x10 :: x11 :: x12 :: x13 :: x14 :: x :: r) x (0 + 1 + 1 + 1 + 1 + 1 + 1 + 1 + 1 + 1 + 1 + 1 + 1 + 1 + 1 + 1) := .s lk14
theorem lk16 {x0 x1 x2 x3 x4 x5 x6 x7 x8 x9 x10 x11 x12 x13 x14 x15 : Str} {x : Str} {r : List Str} : Lk (x0 :: x1 :: x2 :: x3 :: x4 :: x5 :: x6 :: x7 :: x8 :: x9 :: x10 :: x11 :: x12 :: x13 :: x14 :: x15 :: x :: r) x (0 + 1 + 1 + 1 + 1 + 1 + 1 + 1 + 1 + 1 + 1 + 1 + 1 + 1 + 1 + 1 + 1) := .s lk15
theorem lk17 {x0 x1 x2 x3 x4 x5 x6 x7 x8 x9 x10 x11 x12 x13 x14 x15 x16 : Str} {x : Str} {r : List Str} : Lk (x0 :: x1 :: x2 :: x3 :: x4 :: x5 :: x6 :: x7 :: x8 :: x9 :: x10 :: x11 :: x12 :: x13 :: x14 :: x15 :: x16 :: x :: r) x (0 + 1 + 1 + 1 + 1 + 1 + 1 + 1 + 1 + 1 + 1 + 1 + 1 + 1 + 1 + 1 + 1 + 1) := .s lk16
theorem lk18 {x0 x1 x2 x3 x4 x5 x6 x7 x8 x9 x10 x11 x12 x13 x14 x15 x16 x17 : Str} {x : Str} {r : List Str} : Lk (x0 :: x1 :: x2 :: x3 :: x4 :: x5 :: x6 :: x7 :: x8 :: x9 :: x10 :: x11 :: x12 :: x13 :: x14 :: x15 :: x16 :: x17 :: x :: r) x (0 + 1 + 1 + 1 + 1 + 1 + 1 + 1 + 1 + 1 + 1 + 1 + 1 + 1 + 1 + 1 + 1 + 1 + 1) := .s lk17
theorem lk19 {x0 x1 x2 x3 x4 x5 x6 x7 x8 x9 x10 x11 x12 x13 x14 x15 x16 x17 x18 : Str} {x : Str} {r : List Str} : Lk (x0 :: x1 :: x2 :: x3 :: x4 :: x5 :: x6 :: x7 :: x8 :: x9 :: x10 :: x11 :: x12 :: x13 :: x14 :: x15 :: x16 :: x17 :: x18 :: x :: r) x (0 + 1 + 1 + 1 + 1 + 1 + 1 + 1 + 1 + 1 + 1 + 1 + 1 + 1 + 1 + 1 + 1 + 1 + 1 + 1) := .s lk18
theorem Lk.get {nm : List Str} {x : Str} {i : Nat} (h : Lk nm x i) : nm[i]? = some x := by
  induction h with
  | z => rfl
  | s _ ih => simpa using ih
noncomputable def varK (i : Nat) : Pr AV := fun Q σ => match σ.loc[i]? with
  | some (some v) => Q v σ
  | _ => False
theorem tr_load {F : Fm} {x : Str} {i : Nat} (h : Lk F.nm x i) : Tr F VR (loadName F.env x) (varK i) := by
  intro ok σ s Q hg hW
  unfold varK at hW
  split at hW
  · rename_i v hv
    obtain ⟨m, hm, hl⟩ := hg.ns
    obtain ⟨u, q1, q2⟩ := hl i x v h.get hv
    have fin : Pst F VR Q σ s u s := Pst.of q1 hW hg .refl
    rcases q2 with ⟨hk, hmx⟩ | ⟨hk | ⟨hk, hn⟩, c, hc, hv'⟩
    · exact wpAny_loadName_local ok.kind hk hm hmx fin
    · exact wpAny_loadName_cell ok.kind hk hc hv' fin
    · exact wpAny_loadName_free ok.kind hk hc hv' fin hn
  · exact hW.elim
theorem tr_var {F : Fm} {x : Str} {p : Pos} {i : Nat} (h : Lk F.nm x i) (hd : (x == ("__debug__" : Str)) = false := by with_unfolding_all decide) : TrE F (.Name x p) (varK i) :=
  fun ok σ s Q hg hW => wpAny_Name (tr_load h ok σ s Q hg hW) hd
theorem tr_int {F : Fm} {i : Int} {k p} : TrE F (.Constant (.int i) k p) (fun Q σ => Q (.int i) σ) :=
  fun ok σ s Q hg hW => wpAny_Constant_int (Pst.of VR.i hW hg.toks Sp.toks)
theorem tr_nat {F : Fm} {i : Nat} {k p} : TrE F (.Constant (.int (i : Int)) k p) (fun Q σ => Q (.int (i : Int)) σ) := tr_int
theorem tr_none {F : Fm} {k p} : TrE F (.Constant .none k p) (fun Q σ => Q .none σ) :=
  fun ok σ s Q hg hW => wpAny_Constant_none (Pst.of VR.n hW hg Sp.refl)
theorem tr_bool {F : Fm} {b : Bool} {k p} : TrE F (.Constant (.bool b) k p) (fun Q σ => Q (.bool b) σ) :=
  fun ok σ s Q hg hW => wpAny_Constant_bool (Pst.of VR.b hW hg Sp.refl)
theorem tr_str {F : Fm} {x : Str} {k p} : TrE F (.Constant (.str x) k p) (fun Q σ => Q (.str x) σ) :=
  fun ok σ s Q hg hW => wpAny_Constant_str (Pst.of VR.s hW hg.toks Sp.toks)
theorem glob_load {F : Fm} {x : Str} {p : Pos} {v : Value} (hx : F.env.kindOf x = some .globalImplicit) (e : nsIn F.g.K mainGlobals x = some (some v)) (ok : F.Ok) {σ : Stt} {s : Shared} (hg : Gd F σ s) {Q : Value → Shared → Prop} {E : Value → Shared → Prop} (h : Q v s)
    (hd : (x == ("__debug__" : Str)) = false := by with_unfolding_all decide) : wpAny F.M F.A (eval (.Name x p) F.env) Q E s := by
  obtain ⟨pp, loose, mean, mg, mb, T⟩ := ok.g.T
  refine Name_function_global ok.kind hx (loadGlobal_global (mg := mg) ?_ (mg_of ok.g.X T.g e) h) hd
  rw [ok.glob]
  exact T.g.keeps hg.hg.bb
theorem boot_load {F : Fm} {x : Str} {p : Pos} {v : Value} (hx : F.env.kindOf x = some .globalImplicit) (e : nsIn F.g.K mainGlobals x = some none) (hv : bootBuiltins x = some v) (ok : F.Ok) {σ : Stt} {s : Shared} (hg : Gd F σ s) {Q : Value → Shared → Prop} {E : Value → Shared → Prop} (h : Q v s)
    (hn : x ≠ "__name__" := by with_unfolding_all decide) (hd : (x == ("__debug__" : Str)) = false := by with_unfolding_all decide) : wpAny F.M F.A (eval (.Name x p) F.env) Q E s := by
  obtain ⟨pp, loose, mean, mg, mb, T⟩ := ok.g.T
  refine Name_function_global ok.kind hx (loadGlobal_builtin (mg := mg) (mb := mb) ?_ (mg_none_of ok.g.X T.g e) ?_ ((T.builtins x hn).trans hv) h) hd
  · rw [ok.glob]; exact T.g.keeps hg.hg.bb
  · rw [ok.bui]; exact T.b.keeps hg.hg.bb
theorem tr_glob {F : Fm} {x : Str} {p : Pos} {a : Addr} (hx : F.env.kindOf x = some .globalImplicit) (e : nsIn F.g.K mainGlobals x = some (some (.ref a))) (hd : (x == ("__debug__" : Str)) = false := by with_unfolding_all decide) :
    TrE F (.Name x p) (fun Q σ => Q (.ref a) σ) :=
  fun ok σ s Q hg hW => glob_load hx e ok hg (Pst.of VR.r hW hg .refl) hd
noncomputable def sm (a : Int) : Prop := -(2 ^ 200) < a ∧ a < 2 ^ 200
theorem log2_lt {n k : Nat} (h : n < 2 ^ k) (hk : 0 < k) : n.log2 < k := by
  by_cases h0 : n = 0
  · subst h0; simpa using hk
  · exact (Nat.log2_lt h0).mpr h
theorem sm.bits {a : Int} (h : sm a) : Builtin.Int.intBits a ≤ 201 := by
  unfold Builtin.Int.intBits
  split
  · (first | lia | omega)
  · have := log2_lt (n := a.natAbs) (k := 200) (by obtain ⟨h1, h2⟩ := h; (first | lia | omega)) (by decide)
    (first | lia | omega)
theorem sm.pylong {a y : Int} (h : sm y) : Builtin.divisionGoesByPylong a y = false := by
  refine PyProof.noPylong_of_log2 (Nat.lt_of_lt_of_le (log2_lt (k := 200) ?_ (by decide)) (by decide))
  obtain ⟨h1, h2⟩ := h
  (first | lia | omega)
noncomputable def intK (op : Operator) (x y : Int) (Q : Int → Prop) : Prop := match op with
  | .Add => Q (x + y)
  | .Sub => Q (x - y)
  | .Mult => (sm x ∧ sm y) ∧ Q (x * y)
  | .FloorDiv => (0 < y ∧ sm y) ∧ Q (x / y)
  | .Mod => 0 < y ∧ Q (x % y)
  | .Pow => (x = 2 ∧ 0 ≤ y ∧ y ≤ 1000000) ∧ Q (2 ^ y.toNat)
  | .LShift => (sm x ∧ 0 ≤ y ∧ y ≤ 1000000) ∧ Q (x * 2 ^ y.toNat)
  | .RShift => 0 ≤ y ∧ Q (x / 2 ^ y.toNat)
  | .BitAnd => Q (Builtin.bitAnd x y)
  | .BitOr => Q (Builtin.bitOr x y)
  | _ => False
section
variable {prog : Program} {w : World} {A : Around} {E : Value → Shared → Prop} {s : Shared}
theorem intK_ok {op : Operator} {x y : Int} {t u : Tok} {Q₀ : Int → Prop} {Q : Value → Shared → Prop} (h : intK op x y Q₀) (k : ∀ z t', Q₀ z → Q (.int z t') { s with toks := s.toks + 1 }) :
    wpAny (model prog w) A (binaryOp op (.int x t) (.int y u)) Q E s := by
  cases op with
  | Add => exact PyProof.Rows.add_int (k _ _ h)
  | Sub => exact PyProof.Rows.sub_int (k _ _ h)
  | Mult => exact PyProof.Rows.mul_int (k _ _ h.2) (.of_bits (Nat.le_trans h.1.1.bits (by decide)) (Nat.le_trans h.1.2.bits (by decide)))
  | FloorDiv => exact PyProof.Rows.floordiv_int (by have := h.1.1; (first | lia | omega)) (by rw [Int.fdiv_eq_ediv_of_nonneg _ (by have := h.1.1; (first | lia | omega))]; exact k _ _ h.2) (.inl h.1.2.pylong)
  | Mod => exact mod_int' (by have := h.1; (first | lia | omega)) (by rw [Int.fmod_eq_emod_of_nonneg _ (by have := h.1; (first | lia | omega))]; exact k _ _ h.2)
  | Pow =>
    obtain ⟨⟨rfl, h1, h2⟩, h⟩ := h
    refine pow_int h1 ?_ (k _ _ h)
    have e : Builtin.Int.intBits 2 = 2 := by decide
    rw [e]; (first | lia | omega)
  | LShift =>
    obtain ⟨⟨h0, h1, h2⟩, h⟩ := h
    exact lshift_int h1 (by have := h0.bits; (first | lia | omega)) (k _ _ h)
  | RShift => exact rshift_int h.1 (by rw [Int.fdiv_eq_ediv_of_nonneg _ (Int.le_of_lt (Int.pow_pos (by decide)))]; exact k _ _ h.2)
  | BitAnd => exact and_int (k _ _ h)
  | BitOr => exact or_int (k _ _ h)
  | _ => exact h.elim
theorem intK_iok {op : Operator} {x y : Int} {t u : Tok} {Q₀ : Int → Prop} {Q : Value → Shared → Prop} (h : intK op x y Q₀) (k : ∀ z t', Q₀ z → Q (.int z t') { s with toks := s.toks + 1 }) :
    wpAny (model prog w) A (inplaceOp op (.int x t) (.int y u)) Q E s := by
  cases op with
  | Add => exact PyProof.Rows.iadd_int (k _ _ h)
  | Sub => exact PyProof.Rows.isub_int (k _ _ h)
  | Mult => exact PyProof.Rows.imul_int (k _ _ h.2) (.of_bits (Nat.le_trans h.1.1.bits (by decide)) (Nat.le_trans h.1.2.bits (by decide)))
  | FloorDiv => exact PyProof.Rows.ifloordiv_int (by have := h.1.1; (first | lia | omega)) (by rw [Int.fdiv_eq_ediv_of_nonneg _ (by have := h.1.1; (first | lia | omega))]; exact k _ _ h.2) (.inl h.1.2.pylong)
  | Mod => exact imod_int (by have := h.1; (first | lia | omega)) (by rw [Int.fmod_eq_emod_of_nonneg _ (by have := h.1; (first | lia | omega))]; exact k _ _ h.2)
  | Pow =>
    obtain ⟨⟨rfl, h1, h2⟩, h⟩ := h
    refine ipow_int h1 ?_ (k _ _ h)
    have e : Builtin.Int.intBits 2 = 2 := by decide
    rw [e]; (first | lia | omega)
  | LShift =>
    obtain ⟨⟨h0, h1, h2⟩, h⟩ := h
    exact ilshift_int h1 (by have := h0.bits; (first | lia | omega)) (k _ _ h)
  | RShift => exact irshift_int h.1 (by rw [Int.fdiv_eq_ediv_of_nonneg _ (Int.le_of_lt (Int.pow_pos (by decide)))]; exact k _ _ h.2)
  | BitAnd => exact iand_int (k _ _ h)
  | BitOr => exact ior_int (k _ _ h)
  | _ => exact h.elim
end
noncomputable def Stt.put (σ : Stt) (q : Addr) (x : AObj) : Stt := ⟨σ.loc, σ.H.put q x⟩
noncomputable def newK (x : AObj) (Q : AV → Stt → Prop) (σ : Stt) : Prop := ∀ q, σ.H.rd q = none → Q (.ref q) (σ.put q x)
noncomputable def binK (op : Operator) (a b : AV) (Q : AV → Stt → Prop) (σ : Stt) : Prop := match a, b with
  | .int x, .int y => intK op x y fun z => Q (.int z) σ
  | .ref l, .ref r => op = .Add ∧ ∃ xs ys, σ.H.rd l = some (.list xs) ∧ σ.H.rd r = some (.list ys) ∧ xs.length + ys.length ≤ 1000000 ∧ newK (.list (xs ++ ys)) Q σ
  | .ref l, .int n => op = .Mult ∧ ∃ x, σ.H.rd l = some (.list [x]) ∧ 0 ≤ n ∧ n ≤ 1000000 ∧ newK (.list (List.replicate n.toNat x)) Q σ
  | .str x, .str y => op = .Add ∧ x.length + y.length ≤ 1000000 ∧ Q (.str (x ++ y)) σ
  | .str x, .int n => op = .Mult ∧ (0 ≤ n ∧ n ≤ 1000) ∧ x.length ≤ 1000 ∧ Q (.str (Txt.mul x n)) σ
  | _, _ => False
theorem foldl_rep (x : Value) : ∀ (n : Nat) (acc : Array Value), List.foldl (fun x1 x2 => x1 ++ x2) acc (List.replicate n #[x]) = acc ++ (List.replicate n x).toArray
  | 0, acc => by simp
  | n + 1, acc => by
    rw [List.replicate_succ, List.foldl_cons, foldl_rep x n, List.replicate_succ]
    apply Array.ext'
    simp
theorem binK_ok {F : Fm} (ok : F.Ok) {op : Operator} {v u : Value} {a b : AV} {Q : AV → Stt → Prop} {σ : Stt} {s : Shared} (hg : Gd F σ s) (hv : VR v a) (hu : VR u b) (h : binK op a b Q σ) :
    wpAny F.M F.A (binaryOp op v u) (Pst F VR Q σ s) (fun _ _ => False) s := by
  unfold binK at h
  split at h
  · obtain ⟨t, rfl⟩ := hv
    obtain ⟨t', rfl⟩ := hu
    exact intK_ok h fun z t'' hz => Pst.of VR.i hz hg.toks Sp.toks
  · rename_i l r
    obtain ⟨rfl, xs, ys, e1, e2, hs, k⟩ := h
    cases hv
    cases hu
    obtain ⟨vs, p1, q1⟩ := (hg.hg.hr _ _ e1).1
    obtain ⟨us, p2, q2⟩ := (hg.hg.hr _ _ e2).1
    obtain ⟨m, news, F₀, N₀, kk⟩ := new_led ok hg
    refine add_lists F₀ N₀ p1.isList p2.isList (fun h' F' N' => ?_) (by rw [q1.length, q2.length, sizeLine_eq]; (first | lia | omega))
    obtain ⟨g', st, fr⟩ := kk h' s.toks s.heap.objs.size (.list (xs ++ ys)) F' (fun p hp => N' p (.tail _ hp)) (fresh_size _) ⟨_, ⟨_, (N' _ (.head _)).1⟩, q1.append q2⟩
    exact Pst.of VR.r (k _ fr) g' st
  · rename_i l n
    obtain ⟨rfl, x, e1, h0, h1, k⟩ := h
    cases hv
    obtain ⟨t, rfl⟩ := hu
    obtain ⟨vs, ⟨n', p1⟩, q1⟩ := (hg.hg.hr _ _ e1).1
    cases q1 with
    | cons a b =>
      cases b
      rename_i y
      obtain ⟨m, news, F₀, N₀, kk⟩ := new_led ok hg
      refine mul_list F₀ N₀ p1 (by (first | lia | omega)) (by (first | lia | omega)) (by simp; (first | lia | omega)) (fun h' F' N' => ?_)
      have hN := (N' _ (.head _)).1
      have e : List.foldl (fun x1 x2 => x1 ++ x2) #[] (List.replicate (if ([y].toArray).isEmpty = true then 0 else n.toNat) [y].toArray) = (List.replicate n.toNat y).toArray := by
        have : ([y].toArray).isEmpty = false := rfl
        rw [this]
        simp only [Bool.false_eq_true, if_false]
        have := foldl_rep y n.toNat #[]
        simpa using this
      rw [e] at hN
      obtain ⟨g', st, fr⟩ := kk h' s.toks s.heap.objs.size (.list (List.replicate n.toNat x)) F' (fun p hp => N' p (.tail _ hp)) (fresh_size _) ⟨_, ⟨_, hN⟩, VRs.replicate a _⟩
      exact Pst.of VR.r (k _ fr) g' st
  · rename_i x y
    obtain ⟨rfl, hs, k⟩ := h
    obtain ⟨t, rfl⟩ := hv
    obtain ⟨t', rfl⟩ := hu
    exact PyProof.Rows.add_str (fun t'' tk => Pst.of VR.s k hg.toks Sp.toks) (by rw [sizeLine_eq]; (first | lia | omega))
  · rename_i x n
    obtain ⟨rfl, h1, h2, k⟩ := h
    obtain ⟨t, rfl⟩ := hv
    obtain ⟨t', rfl⟩ := hu
    refine SB.mul ⟨?_, fun h3 h4 => ?_, fun h3 h4 => ?_⟩ (fun t'' tk => Pst.of VR.s k hg.toks Sp.toks)
    · simp only [Bool.or_eq_false_iff, decide_eq_false_iff_not]; (first | lia | omega)
    · have h5 : (1000 : Int) ≤ (2 ^ 63 - 1) / n := (Int.le_ediv_iff_mul_le (by (first | lia | omega))).mpr (by (first | lia | omega))
      have h6 : (x.length : Int) ≤ 1000 := by (first | lia | omega)
      exact Int.not_lt.mpr (Int.le_trans h6 h5)
    · have h5 : x.length * n.toNat ≤ 1000 * 1000 := Nat.mul_le_mul h2 (by (first | lia | omega))
      show decide (_ > sizeLine) = false
      rw [sizeLine_eq]
      exact decide_eq_false (by (first | lia | omega))
  · exact h.elim
noncomputable def cmpC (op : CmpOp) (a b : AV) (Q : Bool → Stt → Prop) (σ : Stt) : Prop := match a, b with
  | .int x, .int y => (match op with
      | .Eq => Q (x == y) σ
      | .NotEq => Q (x != y) σ
      | .Lt => Q (decide (x < y)) σ
      | .LtE => Q (decide (x ≤ y)) σ
      | .Gt => Q (decide (y < x)) σ
      | .GtE => Q (decide (y ≤ x)) σ
      | _ => False)
  | .ref l, .ref r => ∃ ns ms : List Int, σ.H.rd l = some (.list (ns.map .int)) ∧ σ.H.rd r = some (.list (ms.map .int)) ∧ (match op with
      | .Eq => Q (decide (ns = ms)) σ
      | .NotEq => Q (!decide (ns = ms)) σ
      | _ => False)
  | .str x, .str y => (match op with
      | .Eq => Q (x == y) σ
      | .NotEq => Q (x != y) σ
      | _ => False)
  | .none, .none => op = .Is ∧ Q true σ
  | .int _, .none => op = .Is ∧ Q false σ
  | .ref _, .none => op = .Is ∧ Q false σ
  | .str _, .none => op = .Is ∧ Q false σ
  | _, _ => False
theorem cmpC_ok {F : Fm} (ok : F.Ok) {op : CmpOp} {v u : Value} {a b : AV} {Q : Bool → Stt → Prop} {Q' : Value → Shared → Prop} {σ : Stt} {s : Shared} (hg : Gd F σ s) (hv : VR v a) (hu : VR u b) (h : cmpC op a b Q σ)
    (k : ∀ c, Q c σ → Q' (.bool c) s) : wpAny F.M F.A (compareOp op v u) Q' (fun _ _ => False) s := by
  have hun : F.A.units + 64 < cLine ∨ True := .inr trivial
  unfold cmpC at h
  split at h
  · obtain ⟨t, rfl⟩ := hv
    obtain ⟨t', rfl⟩ := hu
    cases op with
    | Eq => exact PyProof.Rows.eq_int (k _ h)
    | NotEq => exact PyProof.Rows.ne_int (k _ h)
    | Lt => exact PyProof.Rows.lt_int (k _ h)
    | LtE => exact PyProof.Rows.le_int (k _ h)
    | Gt => exact PyProof.Rows.gt_int (k _ h)
    | GtE => exact PyProof.Rows.ge_int (k _ h)
    | _ => exact h.elim
  · obtain ⟨ns, ms, e1, e2, h⟩ := h
    cases hv
    cases hu
    obtain ⟨vs, p1, q1⟩ := (hg.hg.hr _ _ e1).1
    obtain ⟨us, p2, q2⟩ := (hg.hg.hr _ _ e2).1
    cases op with
    | Eq => exact eq_intsK p1.isList q1.ints p2.isList q2.ints (by have := ok.units; (first | lia | omega)) (k _ h)
    | NotEq => exact ne_intsK p1.isList q1.ints p2.isList q2.ints (by have := ok.units; (first | lia | omega)) (k _ h)
    | _ => exact h.elim
  · obtain ⟨t, rfl⟩ := hv
    obtain ⟨t', rfl⟩ := hu
    cases op with
    | Eq => exact PyProof.Rows.eq_str (k _ h)
    | NotEq => exact PyProof.Rows.ne_str (k _ h)
    | _ => exact h.elim
  all_goals first
    | (obtain ⟨rfl, h⟩ := h
       first
        | (cases hv; cases hu; exact is_none (k _ h))
        | (obtain ⟨t, rfl⟩ := hv; cases hu; exact is_none (k _ h)))
    | exact h.elim
noncomputable def truC (a : AV) (Q : Bool → Stt → Prop) (σ : Stt) : Prop := match a with
  | .bool b => Q b σ
  | _ => False
theorem truC_ok {F : Fm} {v : Value} {a : AV} {Q : Bool → Stt → Prop} {Q' : Bool → Shared → Prop} {σ : Stt} {s : Shared} (hv : VR v a) (h : truC a Q σ) (k : ∀ c, Q c σ → Q' c s) : wpAny F.M F.A (truthy v) Q' (fun _ _ => False) s := by
  unfold truC at h
  split at h
  · cases hv; exact wpAny_truthy_bool (k _ h)
  · exact h.elim
theorem tr_bin {F : Fm} {l r : Expr} {op : Operator} {p : Pos} {Wl Wr : Pr AV} (hl : TrE F l Wl) (hr : TrE F r Wr) : TrE F (.BinOp l op r p) (bnd Wl fun a => bnd Wr fun b => binK op a b) :=
  fun ok σ s Q hg hW => wpAny_BinOp (hl.use ok hg hW fun v s₁ a σ₁ r₁ h₁ g₁ st₁ => hr.use ok g₁ h₁ fun u s₂ b σ₂ r₂ h₂ g₂ st₂ => wpAny_mono (binK_ok ok g₂ r₁ r₂ h₂) (fun z s₃ p₃ => p₃.after (st₁.trans st₂)) fun _ _ x => x)
theorem tr_cmp {F : Fm} {l r : Expr} {op : CmpOp} {p : Pos} {Wl Wr : Pr AV} (hl : TrE F l Wl) (hr : TrE F r Wr) (hm : behindInMarks op r = false := by with_unfolding_all rfl) :
    TrE F (.Compare l [op] [r] p) (bnd Wl fun a => bnd Wr fun b Q => cmpC op a b fun c => Q (.bool c)) :=
  fun ok σ s Q hg hW => wpAny_Compare1 (hl.use ok hg hW fun v s₁ a σ₁ r₁ h₁ g₁ st₁ => hr.use ok g₁ h₁ fun u s₂ b σ₂ r₂ h₂ g₂ st₂ => cmpC_ok ok g₂ r₁ r₂ h₂ fun c hc => Pst.of VR.b hc g₂ (st₁.trans st₂)) hm
theorem trc_cmp {F : Fm} {l r : Expr} {op : CmpOp} {p : Pos} {Wl Wr : Pr AV} (hl : TrE F l Wl) (hr : TrE F r Wr) (hm : behindInMarks op r = false := by with_unfolding_all rfl) :
    TrC F (.Compare l [op] [r] p) (bnd Wl fun a => bnd Wr fun b => cmpC op a b) :=
  fun ok σ s Q hg hW => wpAny_isTrue_Compare1 (hl.use ok hg hW fun v s₁ a σ₁ r₁ h₁ g₁ st₁ => hr.use ok g₁ h₁ fun u s₂ b σ₂ r₂ h₂ g₂ st₂ => cmpC_ok ok g₂ r₁ r₂ h₂ fun c hc => wpAny_truthy_bool (Pst.of rfl hc g₂ (st₁.trans st₂))) hm
theorem trc_plain {F : Fm} {e : Expr} {W : Pr AV} (h : TrE F e W) (he : isTrue e F.env (eval e F.env) = (do let v ← eval e F.env; standAt e.pos; holding [v] (truthy v)) := by with_unfolding_all rfl) : TrC F e (bnd W fun a => truC a) :=
  fun ok σ s Q hg hW => isTrue_plain (h.use ok hg hW fun v s₁ a σ₁ r₁ h₁ g₁ st₁ => truC_ok r₁ h₁ fun c hc => Pst.of rfl hc g₁ st₁) he
theorem trc_not {F : Fm} {x : Expr} {p : Pos} {W : Pr Bool} (h : TrC F x W) : TrC F (.UnaryOp .Not x p) (bnd W fun b Q => Q (!b)) :=
  fun ok σ s Q hg hW => wpAny_isTrue_Not (h.use ok hg hW fun v s₁ a σ₁ r₁ h₁ g₁ st₁ => by subst r₁; exact Pst.of rfl h₁ g₁ st₁)
noncomputable def iteK (b : Bool) (P Q : Prop) : Prop := if b = true then P else Q
theorem trc_and {F : Fm} {x y : Expr} {p : Pos} {Wx Wy : Pr Bool} (hx : TrC F x Wx) (hy : TrC F y Wy) : TrC F (.BoolOp .And [x, y] p) (bnd Wx fun b Q σ => iteK b (Wy Q σ) (Q false σ)) :=
  fun ok σ s Q hg hW => isTrue_and (hx.use ok hg hW fun v s₁ a σ₁ r₁ h₁ g₁ st₁ => by
    subst r₁
    cases v with
    | false => exact Pst.of rfl (by simpa [iteK] using h₁) g₁ st₁
    | true =>
      simp only [iteK, if_true] at h₁ ⊢
      refine isTrue_and (hy.use ok g₁ h₁ fun v' s₂ b σ₂ r₂ h₂ g₂ st₂ => ?_)
      subst r₂
      cases v' with
      | false => exact Pst.of rfl h₂ g₂ (st₁.trans st₂)
      | true => exact isTrue_and_nil (Pst.of rfl h₂ g₂ (st₁.trans st₂)))
theorem trc_or {F : Fm} {x y : Expr} {p : Pos} {Wx Wy : Pr Bool} (hx : TrC F x Wx) (hy : TrC F y Wy) : TrC F (.BoolOp .Or [x, y] p) (bnd Wx fun b Q σ => iteK b (Q true σ) (Wy Q σ)) :=
  fun ok σ s Q hg hW => isTrue_or (hx.use ok hg hW fun v s₁ a σ₁ r₁ h₁ g₁ st₁ => by
    subst r₁
    cases v with
    | true => exact Pst.of rfl (by simpa [iteK] using h₁) g₁ st₁
    | false =>
      simp only [iteK, Bool.false_eq_true, if_false] at h₁ ⊢
      refine isTrue_or (hy.use ok g₁ h₁ fun v' s₂ b σ₂ r₂ h₂ g₂ st₂ => ?_)
      subst r₂
      cases v' with
      | true => exact Pst.of rfl h₂ g₂ (st₁.trans st₂)
      | false => exact isTrue_or_nil (Pst.of rfl h₂ g₂ (st₁.trans st₂)))
theorem tr_or {F : Fm} {x y : Expr} {p : Pos} {Wx Wy : Pr AV} (hx : TrE F x Wx) (hy : TrE F y Wy) : TrE F (.BoolOp .Or [x, y] p) (bnd Wx fun a Q => truC a fun b σ => iteK b (Q (.bool true) σ) (Wy Q σ)) :=
  fun ok σ s Q hg hW => wpAny_Or2 (hx.use ok hg hW fun v s₁ a σ₁ r₁ h₁ g₁ st₁ => by
    try dsimp only at h₁
    unfold truC at h₁
    split at h₁
    · rename_i b
      cases r₁
      refine wpAny_truthy_bool ?_
      cases b with
      | true => simp only [iteK, if_true] at h₁ ⊢; exact Pst.of VR.b h₁ g₁ st₁
      | false =>
        simp only [iteK, Bool.false_eq_true, if_false] at h₁ ⊢
        exact wpAny_mono (hy ok _ _ _ g₁ h₁) (fun _ _ p => p.after st₁) fun _ _ x => x
    · exact h₁.elim)
noncomputable def negK (a : AV) (Q : AV → Stt → Prop) (σ : Stt) : Prop := match a with
  | .int x => Q (.int (-x)) σ
  | _ => False
theorem tr_neg {F : Fm} {x : Expr} {p : Pos} {W : Pr AV} (h : TrE F x W) : TrE F (.UnaryOp .USub x p) (bnd W fun a => negK a) :=
  fun ok σ s Q hg hW => wpAny_UnaryOp (h.use ok hg hW fun v s₁ a σ₁ r₁ h₁ g₁ st₁ => by
    try dsimp only at h₁
    unfold negK at h₁
    split at h₁
    · obtain ⟨t, rfl⟩ := r₁; exact PyProof.Rows.neg_int (Pst.of VR.i h₁ g₁.toks (st₁.trans Sp.toks))
    · exact h₁.elim)
noncomputable def iteE (Wc : Pr Bool) (Wt We : Pr AV) (Q : AV → Stt → Prop) (σ : Stt) : Prop := Wc (fun b σ₁ => iteK b (Wt Q σ₁) (We Q σ₁)) σ
theorem tr_ite {F : Fm} {c t e : Expr} {p : Pos} {Wc : Pr Bool} {Wt We : Pr AV} (hc : TrC F c Wc) (ht : TrE F t Wt) (he : TrE F e We) : TrE F (.IfExp c t e p) (iteE Wc Wt We) :=
  fun ok σ s Q hg hW => wpAny_IfExp (hc.use ok hg (show Wc (fun b σ₁ => iteK b (Wt Q σ₁) (We Q σ₁)) σ from hW) fun v s₁ a σ₁ r₁ h₁ g₁ st₁ => by
    subst r₁
    cases v with
    | true => simp only [iteK, if_true] at h₁ ⊢; exact wpAny_mono (ht ok _ _ _ g₁ h₁) (fun _ _ p => p.after st₁) fun _ _ x => x
    | false => simp only [iteK, Bool.false_eq_true, if_false] at h₁ ⊢; exact wpAny_mono (he ok _ _ _ g₁ h₁) (fun _ _ p => p.after st₁) fun _ _ x => x)
noncomputable def atI (xs : List AV) (k : Int) : Option AV := if 0 ≤ k then xs[k.toNat]? else if 0 ≤ k + xs.length then xs[(k + xs.length).toNat]? else none
noncomputable def idxK (a i : AV) (Q : AV → Stt → Prop) (σ : Stt) : Prop := match a, i with
  | .ref l, .int k => ∃ xs x, (σ.H.rd l = some (.list xs) ∨ σ.H.rd l = some (.tup xs)) ∧ atI xs k = some x ∧ (-(2 ^ 60) < k ∧ k < 2 ^ 60) ∧ Q x σ
  | _, _ => False
theorem atI_get {xs : List AV} {k : Int} {x : AV} (h : atI xs k = some x) {vs : List Value} (hv : VRs vs xs) : ∃ v j, seqIndex? k vs.toArray.size = some j ∧ vs.toArray[j]? = some v ∧ VR v x ∧ (0 ≤ k → j = k.toNat) ∧ (k < 0 → j = (k + vs.toArray.size).toNat ∧ -(vs.toArray.size : Int) ≤ k) := by
  have e : vs.toArray.size = xs.length := by rw [List.size_toArray, hv.length]
  try dsimp only at h
  unfold atI at h
  split at h
  · rename_i h0
    obtain ⟨v, a, b⟩ := hv.get _ _ h
    have hlt := (List.getElem?_eq_some_iff.mp h).1
    exact ⟨v, _, seqIndex_of h0 (by rw [e]; (first | lia | omega)), by simpa using a, b, fun _ => rfl, fun h => absurd h (by (first | lia | omega))⟩
  · split at h
    · rename_i h0 h1
      obtain ⟨v, a, b⟩ := hv.get _ _ h
      refine ⟨v, _, seqIndex_neg (by (first | lia | omega)) (by rw [e]; (first | lia | omega)), ?_, b, fun h => absurd h h0, fun _ => ⟨rfl, by rw [e]; (first | lia | omega)⟩⟩
      rw [e]; simpa using a
    · cases h
theorem idxK_ok {F : Fm} (ok : F.Ok) {value slice : Expr} {v u : Value} {a i : AV} {Q : AV → Stt → Prop} {σ : Stt} {s : Shared} (hg : Gd F σ s) (hv : VR v a) (hu : VR u i) (h : idxK a i Q σ)
    (hs : ∀ o k t, subscripted slice false o (.int k t) = operate [o, .int k t] (getItem o (.int k t))) : wpAny F.M F.A (subscriptTail value slice v u) (Pst F VR Q σ s) (fun _ _ => False) s := by
  try dsimp only at h
  unfold idxK at h
  split at h
  · rename_i l k
    obtain ⟨xs, x, hx, hat, ⟨b1, b2⟩, hq⟩ := h
    cases hv
    obtain ⟨t, rfl⟩ := hu
    rcases hx with e | e
    · obtain ⟨vs, p, q⟩ := (hg.hg.hr _ _ e).1
      obtain ⟨w, j, z1, z2, z3, z4, z5⟩ := atI_get hat q
      refine tail_any p.isList.typeIs slot_list_getitem.lookup ?_ (hs _ _ _)
      by_cases h0 : 0 ≤ k
      · have := z4 h0; subst this
        exact wpAny_getItem_list p.isList h0 (by (first | lia | omega)) z2 (Pst.of z3 hq hg .refl)
      · obtain ⟨y1, y2⟩ := z5 (by (first | lia | omega)); subst y1
        exact wpAny_getItem_list_neg p.isList (by (first | lia | omega)) y2 (by (first | lia | omega)) z2 (Pst.of z3 hq hg .refl)
    · obtain ⟨vs, p, q⟩ := (hg.hg.hr _ _ e).1
      obtain ⟨w, j, z1, z2, z3, z4, z5⟩ := atI_get hat q
      refine tail_any p.typeIs slot_tuple_getitem.lookup ?_ (hs _ _ _)
      exact getItem_tuple p (by (first | lia | omega)) (by (first | lia | omega)) z1 z2 (Pst.of z3 hq hg .refl)
  · exact h.elim
theorem tr_idx {F : Fm} {e i : Expr} {p : Pos} {We Wi : Pr AV} (he : TrE F e We) (hi : TrE F i Wi) (hs : ∀ o k t, subscripted i false o (.int k t) = operate [o, .int k t] (getItem o (.int k t)) := by intro _ _ _; with_unfolding_all rfl) :
    TrE F (.Subscript e i p) (bnd We fun a => bnd Wi fun k => idxK a k) :=
  fun ok σ s Q hg hW => Subscript_ (he.use ok hg hW fun v s₁ a σ₁ r₁ h₁ g₁ st₁ => hi.use ok g₁ h₁ fun u s₂ b σ₂ r₂ h₂ g₂ st₂ => wpAny_mono (idxK_ok ok g₂ r₁ r₂ h₂ hs) (fun z s₃ p₃ => p₃.after (st₁.trans st₂)) fun _ _ x => x)
noncomputable def cutL (xs : List AV) (lo hi : Option Int) : List AV := match lo, hi with
  | none, none => xs
  | none, some h => xs.take h.toNat
  | some l, none => xs.drop l.toNat
  | some l, some h => (xs.drop l.toNat).take (h.toNat - l.toNat)
noncomputable def partOf : AV → Option (Option Int)
  | .none => some none
  | .int k => some (some k)
  | _ => none
noncomputable def cutK (a lo hi : AV) (Q : AV → Stt → Prop) (σ : Stt) : Prop := match a, partOf lo, partOf hi with
  | .ref l, some lo, some hi => (∀ k, lo = some k → 0 ≤ k) ∧ (∀ k, hi = some k → 0 ≤ k) ∧ (lo = none ∨ hi = none) ∧ ∃ xs, σ.H.rd l = some (.list xs) ∧ xs.length ≤ 1000000 ∧ newK (.list (cutL xs lo hi)) Q σ
  | _, _, _ => False
theorem partOf_ok {v : Value} {a : AV} {k : Option Int} (h : VR v a) (e : partOf a = some k) : IsPart v k := by
  cases a with
  | none => cases e; cases h; exact .none
  | int i => cases e; obtain ⟨t, rfl⟩ := h; exact .int i t
  | _ => cases e
theorem cut_ok {vs : List Value} {xs : List AV} (h : VRs vs xs) {lo hi : Option Int} (h1 : ∀ k, lo = some k → 0 ≤ k) (h2 : ∀ k, hi = some k → 0 ≤ k) (h3 : lo = none ∨ hi = none) : ∃ us, slicePick vs.toArray lo hi none = us.toArray ∧ VRs us (cutL xs lo hi) := by
  cases lo with
  | none => cases hi with
    | none => exact ⟨vs, by rw [slicePick_all], h⟩
    | some k =>
      have := h2 k rfl
      have e : k = ((k.toNat : Nat) : Int) := by (first | lia | omega)
      refine ⟨vs.take k.toNat, ?_, h.take _⟩
      rw [e, slicePick_upto']; rfl
  | some k => cases hi with
    | none =>
      have := h1 k rfl
      have e : k = ((k.toNat : Nat) : Int) := by (first | lia | omega)
      refine ⟨vs.drop k.toNat, ?_, h.drop _⟩
      rw [e, slicePick_from']; rfl
    | some j => rcases h3 with h3 | h3 <;> cases h3
noncomputable def partW (F : Fm) (o : Option Expr) (W : Pr AV) : Prop := Tr F VR (evalPart o F.env) W
theorem part_none {F : Fm} : partW F none (fun Q => Q .none) := fun ok σ s Q hg hW => wpAny_pure (Pst.of VR.n hW hg .refl)
theorem part_some {F : Fm} {e : Expr} {W : Pr AV} (h : TrE F e W) : partW F (some e) W := h
theorem tr_cut {F : Fm} {x : Str} {lo hi : Option Expr} {p q r : Pos} {We Wl Wh : Pr AV} (he : TrE F (.Name x r) We) (hl : partW F lo Wl) (hh : partW F hi Wh) :
    TrE F (.Subscript (.Name x r) (.Slice lo hi none q) p) (bnd We fun a => bnd Wl fun b => bnd Wh fun c => cutK a b c) := by
  intro ok σ s Q hg hW
  refine Subscript_ (he.use ok hg hW fun v s₁ a σ₁ r₁ h₁ g₁ st₁ => ?_)
  refine wpAny_Slice (hl.use ok g₁ h₁ fun u s₂ b σ₂ r₂ h₂ g₂ st₂ => hh.use ok g₂ h₂ fun w s₃ c σ₃ r₃ h₃ g₃ st₃ => wpAny_evalPart_none ?_)
  have st := st₁.trans (st₂.trans st₃)
  try dsimp only at h₃
  unfold cutK at h₃
  split at h₃
  · rename_i l lo' hi' e1 e2
    obtain ⟨k1, k2, k3, xs, e, hsz, k⟩ := h₃
    cases r₁
    obtain ⟨vs, pl, q⟩ := (g₃.hg.hr _ _ e).1
    obtain ⟨us, ee, hus⟩ := cut_ok q k1 k2 k3
    refine slice_listK pl.isList (partOf_ok r₂ e1) (partOf_ok r₃ e2) ?_ (hsz := by rw [List.size_toArray, q.length, sizeLine_eq]; (first | lia | omega))
    rw [ee]
    have hz : (s₃.heap.push { cls := .type "slice", data := .fields #[u, w, .none] }).objs.size = s₃.heap.objs.size + 1 := Heap.size_push ..
    have ho : HObj ((s₃.heap.push { cls := .type "slice", data := .fields #[u, w, .none] }).push { cls := .type "list", data := .seq us.toArray }) (s₃.heap.objs.size + 1) (.list (cutL xs lo' hi')) :=
      ⟨us, ⟨0, by rw [← hz]; exact Heap.get?_push_size _ rfl⟩, hus⟩
    have hn : s₃.heap.get? (s₃.heap.objs.size + 1) = none := by
      cases z : s₃.heap.get? (s₃.heap.objs.size + 1) with
      | none => rfl
      | some o => exact absurd (Heap.lt_size z) (Nat.not_lt.mpr (Nat.le_succ _))
    obtain ⟨g', st', fr⟩ := new_obj ok g₃ (tk := s₃.toks) (fun b o e => Heap.get?_push_of_some _ (Heap.get?_push_of_some _ e)) hn ho
    exact Pst.of VR.r (k _ fr) g' (st.trans st')
  · exact h₃.elim
noncomputable abbrev TrL (F : Fm) (es : List Expr) (p : Pos) (W : Pr (List AV)) : Prop := Tr F VRs (spliced (backTo p (starEach es F.env))) W
theorem trl_nil {F : Fm} {p : Pos} : TrL F [] p (fun Q => Q []) := fun ok σ s Q hg hW => wpAny_items_nil (Pst.of .nil hW hg .refl)
theorem trl_cons {F : Fm} {p : Pos} {e : Expr} {es : List Expr} {We : Pr AV} {Ws : Pr (List AV)} (he : TrE F e We) (hs : TrL F es p Ws) (hn : starEach (e :: es) F.env = (false, eval e F.env) :: starEach es F.env := by with_unfolding_all rfl) :
    TrL F (e :: es) p (bnd We fun a => bnd Ws fun as Q => Q (a :: as)) :=
  fun ok σ s Q hg hW => wpAny_items_cons (he.use ok hg hW fun v s₁ a σ₁ r₁ h₁ g₁ st₁ => hs.use ok g₁ h₁ fun u s₂ b σ₂ r₂ h₂ g₂ st₂ => Pst.of (.cons r₁ r₂) h₂ g₂ (st₁.trans st₂)) hn
theorem new_list {F : Fm} (ok : F.Ok) {σ : Stt} {s : Shared} (hg : Gd F σ s) {vs : List Value} {xs : List AV} (h : VRs vs xs) {Q : AV → Stt → Prop} (hl : xs.length ≤ 1000000) (k : newK (.list xs) Q σ) : wpAny F.M F.A (newList vs) (Pst F VR Q σ s) (fun _ _ => False) s := by
  refine PySem.wpAny_newList ?_ (by rw [h.length, sizeLine_eq]; (first | lia | omega))
  obtain ⟨g', st', fr⟩ := new_obj ok hg (tk := s.toks) (h' := s.heap.push { cls := .type "list", data := .seq vs.toArray }) (r := s.heap.objs.size) (ao := .list xs) (fun b o e => Heap.get?_push_of_some _ e) (fresh_size _) ⟨vs, ⟨0, Heap.get?_push_size _ rfl⟩, h⟩
  exact Pst.of VR.r (k _ fr) g' st'
theorem new_tup {F : Fm} (ok : F.Ok) {σ : Stt} {s : Shared} (hg : Gd F σ s) {vs : List Value} {xs : List AV} (h : VRs vs xs) {Q : AV → Stt → Prop} (hl : xs.length ≤ 1000000) (k : newK (.tup xs) Q σ) : wpAny F.M F.A (newTuple vs) (Pst F VR Q σ s) (fun _ _ => False) s := by
  refine PySem.wpAny_newTuple ?_ (by rw [h.length, sizeLine_eq]; (first | lia | omega))
  obtain ⟨g', st', fr⟩ := new_obj ok hg (tk := s.toks) (h' := s.heap.push { cls := .type "tuple", data := .seq vs.toArray }) (r := s.heap.objs.size) (ao := .tup xs) (fun b o e => Heap.get?_push_of_some _ e) (fresh_size _) ⟨vs, ⟨_, Heap.get?_push_size _ rfl, rfl, 0, rfl⟩, h⟩
  exact Pst.of VR.r (k _ fr) g' st'
theorem tr_list {F : Fm} {es : List Expr} {p : Pos} {W : Pr (List AV)} (h : TrL F es p W) : TrE F (.List es p) (bnd W fun xs Q σ => xs.length ≤ 1000000 ∧ newK (.list xs) Q σ) :=
  fun ok σ s Q hg hW => List_ (h.use ok hg hW fun v s₁ a σ₁ r₁ h₁ g₁ st₁ => wpAny_mono (new_list ok g₁ r₁ h₁.1 h₁.2) (fun _ _ p => p.after st₁) fun _ _ x => x)
theorem tr_tup {F : Fm} {es : List Expr} {k : Nat} {p : Pos} {W : Pr (List AV)} (h : TrL F es p W) : TrE F (.Tuple es k p) (bnd W fun xs Q σ => xs.length ≤ 1000000 ∧ newK (.tup xs) Q σ) :=
  fun ok σ s Q hg hW => Tuple_ (h.use ok hg hW fun v s₁ a σ₁ r₁ h₁ g₁ st₁ => wpAny_mono (new_tup ok g₁ r₁ h₁.1 h₁.2) (fun _ _ p => p.after st₁) fun _ _ x => x)
noncomputable def BCall (F : Fm) (v : Value) (K : List AV → Pr AV) : Prop := F.Ok → ∀ vs as Q σ s, Gd F σ s → VRs vs as → K as Q σ → wpAny F.M F.A (call v vs) (Pst F VR Q σ s) (fun _ _ => False) s
theorem tr_bcall {F : Fm} {x : Str} {id : String} {e : Expr} {es : List Expr} {p q : Pos} {W : Pr (List AV)} {K : List AV → Pr AV} (hk : BCall F (.builtin id) K) (hv : bootBuiltins x = some (.builtin id)) (hx : F.env.kindOf x = some .globalImplicit) (hK : nsIn F.g.K mainGlobals x = some none) (he : TrL F (e :: es) p W)
    (hx1 : x ≠ "__name__" := by with_unfolding_all decide) (hd : (x == ("__debug__" : Str)) = false := by with_unfolding_all decide)
    (hn : starEach (e :: es) F.env = (false, eval e F.env) :: starEach es F.env := by with_unfolding_all rfl) (hp : (backTo p (starEach es F.env)).any (·.1) = false := by with_unfolding_all rfl)
    (hc : eval (.Call (.Name x q) (e :: es) [] p) F.env = (do callWith p (← eval (.Name x q) F.env) [] (backTo p (starEach (e :: es) F.env)) (backToKw p (keywordEach [] F.env))) := by with_unfolding_all rfl) :
    TrE F (.Call (.Name x q) (e :: es) [] p) (bnd W fun as => K as) := by
  intro ok σ s Q hg hW
  refine Call_ (boot_load hx hK hv ok hg ?_ hx1 hd) hc
  exact PyProof.Rows.callWith_builtin1 (he.use ok hg hW fun v s₁ a σ₁ r₁ h₁ g₁ st₁ => wpAny_mono (hk ok _ _ _ _ _ g₁ r₁ h₁) (fun _ _ p => p.after st₁) fun _ _ x => x) hn hp
theorem tr_tcall {F : Fm} {x : Str} {T : String} {e : Expr} {es : List Expr} {p q : Pos} {W : Pr (List AV)} {K : List AV → Pr AV} (hk : BCall F (.type T) K) (hv : bootBuiltins x = some (.type T)) (hx : F.env.kindOf x = some .globalImplicit) (hK : nsIn F.g.K mainGlobals x = some none) (he : TrL F (e :: es) p W)
    (hx1 : x ≠ "__name__" := by with_unfolding_all decide) (hd : (x == ("__debug__" : Str)) = false := by with_unfolding_all decide)
    (hn : starEach (e :: es) F.env = (false, eval e F.env) :: starEach es F.env := by with_unfolding_all rfl) (hp : (backTo p (starEach es F.env)).any (·.1) = false := by with_unfolding_all rfl)
    (hc : eval (.Call (.Name x q) (e :: es) [] p) F.env = (do callWith p (← eval (.Name x q) F.env) [] (backTo p (starEach (e :: es) F.env)) (backToKw p (keywordEach [] F.env))) := by with_unfolding_all rfl) :
    TrE F (.Call (.Name x q) (e :: es) [] p) (bnd W fun as => K as) := by
  intro ok σ s Q hg hW
  refine Call_ (boot_load hx hK hv ok hg ?_ hx1 hd) hc
  exact PySem.Pv.callWith_type1 (he.use ok hg hW fun v s₁ a σ₁ r₁ h₁ g₁ st₁ => wpAny_mono (hk ok _ _ _ _ _ g₁ r₁ h₁) (fun _ _ p => p.after st₁) fun _ _ x => x) hn hp
noncomputable def lenK (as : List AV) (Q : AV → Stt → Prop) (σ : Stt) : Prop := match as with
  | [.ref l] => ∃ xs, σ.H.rd l = some (.list xs) ∧ xs.length ≤ 1000000 ∧ Q (.int xs.length) σ
  | _ => False
theorem len_ok {F : Fm} : BCall F (.builtin "len") lenK := by
  intro ok vs as Q σ s hg hv h
  try dsimp only at h
  unfold lenK at h
  split at h
  · obtain ⟨xs, e, hs, k⟩ := h
    cases hv with
    | cons a b =>
      cases a; cases b
      obtain ⟨us, p, q⟩ := (hg.hg.hr _ _ e).1
      have e1 : us.toArray.size = xs.length := by rw [List.size_toArray, q.length]
      refine len_list p.isList (by rw [e1]; (first | lia | omega)) ?_
      rw [e1]
      exact Pst.of VR.i k hg.toks Sp.toks
  · exact h.elim
noncomputable def absK (as : List AV) (Q : AV → Stt → Prop) (σ : Stt) : Prop := match as with
  | [.int x] => Q (.int (if x < 0 then -x else x)) σ
  | _ => False
theorem abs_ok {F : Fm} : BCall F (.builtin "abs") absK := by
  intro ok vs as Q σ s hg hv h
  try dsimp only at h
  unfold absK at h
  split at h
  · cases hv with
    | cons a b =>
      cases b; obtain ⟨t, rfl⟩ := a
      exact call_abs_int fun u tk => Pst.of VR.i h hg.toks Sp.toks
  · exact h.elim
noncomputable def maxK (as : List AV) (Q : AV → Stt → Prop) (σ : Stt) : Prop := match as with
  | [.int x, .int y] => Q (.int (if y > x then y else x)) σ
  | _ => False
theorem max_ok {F : Fm} : BCall F (.builtin "max") maxK := by
  intro ok vs as Q σ s hg hv h
  try dsimp only at h
  unfold maxK at h
  split at h
  · cases hv with
    | cons a b => cases b with
      | cons b c =>
        cases c; obtain ⟨t, rfl⟩ := a; obtain ⟨u, rfl⟩ := b
        refine max_two_ints ok.hh fun h' tk k => Pst.of ?_ h (hg.grow k) (Sp.grow k)
        split <;> exact VR.i
  · exact h.elim
noncomputable def minK (as : List AV) (Q : AV → Stt → Prop) (σ : Stt) : Prop := match as with
  | [.int x, .int y] => Q (.int (if y < x then y else x)) σ
  | _ => False
theorem min_ok {F : Fm} : BCall F (.builtin "min") minK := by
  intro ok vs as Q σ s hg hv h
  try dsimp only at h
  unfold minK at h
  split at h
  · cases hv with
    | cons a b => cases b with
      | cons b c =>
        cases c; obtain ⟨t, rfl⟩ := a; obtain ⟨u, rfl⟩ := b
        refine min_two_ints ok.hh fun h' tk k => Pst.of ?_ h (hg.grow k) (Sp.grow k)
        split <;> exact VR.i
  · exact h.elim
noncomputable def intcK (as : List AV) (Q : AV → Stt → Prop) (σ : Stt) : Prop := match as with
  | [.int x] => Q (.int x) σ
  | _ => False
theorem int_ok {F : Fm} : BCall F (.type "int") intcK := by
  intro ok vs as Q σ s hg hv h
  try dsimp only at h
  unfold intcK at h
  split at h
  · cases hv with
    | cons a b =>
      cases b; obtain ⟨t, rfl⟩ := a
      exact call_int_int (Pst.of VR.i h hg .refl)
  · exact h.elim
noncomputable def bitsK (a : AV) (Q : AV → Stt → Prop) (σ : Stt) : Prop := match a with
  | .int x => Q (.int (Builtin.Int.intBits x)) σ
  | _ => False
theorem tr_bitlen {F : Fm} {e : Expr} {p q : Pos} {W : Pr AV} {pl : Sem Bool} (he : TrE F e W)
    (hc : eval (.Call (.Attribute e (Str.ofString "bit_length") q) [] [] p) F.env = (do
      let ov ← eval e F.env
      standAt q.atName
      let (f, first) ← holding [ov] (getMethod ov (Str.ofString "bit_length") pl)
      callWith p f first (backTo p (starEach [] F.env)) []) := by with_unfolding_all rfl) :
    TrE F (.Call (.Attribute e (Str.ofString "bit_length") q) [] [] p) (bnd W fun a => bitsK a) := by
  intro ok σ s Q hg hW
  refine MethodCall_ (he.use ok hg hW fun v s₁ a σ₁ r₁ h₁ g₁ st₁ => ?_) hc
  try dsimp only at h₁
  unfold bitsK at h₁
  split at h₁
  · obtain ⟨t, rfl⟩ := r₁
    refine getMethod_int_bit_length (callWith_method0 ?_)
    exact call_int_bit_length (Pst.of VR.i h₁ g₁.toks (st₁.trans Sp.toks))
  · exact h₁.elim
noncomputable def Stt.set (σ : Stt) (q : Addr) (x : AObj) : Stt := ⟨σ.loc, σ.H.set q x⟩
theorem Gd.change {F : Fm} {σ : Stt} {s : Shared} (hg : Gd F σ s) {l : Addr} (hown : σ.H.own l) {h' : Heap} {tk : Nat} {ao : AObj} (hr : σ.H.rd l ≠ none) (k : ∀ b o, b ≠ l → s.heap.get? b = some o → h'.get? b = some o) (ho : HObj h' l ao) (hal : h'.get? l ≠ none) :
    Gd F (σ.set l ao) { s with heap := h', toks := tk } ∧ Sp F σ s (σ.set l ao) { s with heap := h', toks := tk } := by
  obtain ⟨⟨hrd, ow, bb, al⟩, ⟨m, hm, hl⟩, cl⟩ := hg
  obtain ⟨nx, nB⟩ := ow l hown
  have nL : l ≠ F.env.locals := fun e => nx (.inl e)
  have nC : ∀ y c, (y, c) ∈ F.env.cells → c ≠ l := fun y c hm e => nx (.inr ⟨y, e ▸ hm⟩)
  have isc : ∀ y c v, (y, c) ∈ F.env.cells → s.heap.IsCell c v → h'.IsCell c v := fun y c v hm ⟨o, ho, hd⟩ => ⟨o, k _ _ (nC y c hm) ho, hd⟩
  refine ⟨⟨⟨fun a bo e => ?_, ow, fun b o e => ?_, fun a e => (Classical.em (a = l)).elim (fun z => z ▸ hal) fun n => (Option.ne_none_iff_exists'.mp (al a e)).elim fun o q => some_ne (k a o n q)⟩, ⟨m, hm.at' fun o e => k _ _ (Ne.symm nL) e, fun i y av h1 h2 => ?_⟩, fun c hc => ?_⟩, ⟨⟨_, _, rfl⟩, ⟨fun b o e n1 n2 => k b o (fun z => n2 (z ▸ hown)) e, fun b e => ?_, fun _ e => .inl e, fun a e => ?_⟩⟩⟩
  · dsimp only [Stt.set, Hp.set] at e
    split at e
    · cases e; subst_vars; exact ⟨ho, nx⟩
    · rename_i n
      exact ⟨(hrd a bo e).1.keeps fun o q => k _ _ n q, (hrd a bo e).2⟩
  · exact k b o (fun z => by rw [z, nB] at e; cases e) (bb b o e)
  · obtain ⟨v, q1, q2⟩ := hl i y av h1 h2
    refine ⟨v, q1, ?_⟩
    rcases q2 with q2 | ⟨b1, c, b2, b3⟩
    · exact .inl q2
    · exact .inr ⟨b1, c, b2, isc _ _ _ (mem_of_lookup b2) b3⟩
  · obtain ⟨v, q⟩ := cl c hc
    exact ⟨v, isc c.1 _ _ hc q⟩
  · by_cases n : b = l
    · subst n; exact hal
    · show h'.get? b ≠ none
      cases q : s.heap.get? b with
      | none => exact absurd q e
      | some o => rw [k b o n q]; intro z; cases z
  · dsimp only [Stt.set, Hp.set] at e
    split at e
    · subst_vars; exact .inl hr
    · exact .inl e
inductive AF where
  | next | brk | cont
  | ret (v : AV)
noncomputable def FR (f : Flow) : AF → Prop
  | .next => f = .next
  | .brk => f = .brk
  | .cont => f = .cont
  | .ret v => ∃ u, f = .ret u ∧ VR u v
noncomputable abbrev TrS (F : Fm) (st : Stmt) (W : Pr AF) : Prop := Tr F FR (exec st F.env) W
noncomputable abbrev TrB (F : Fm) (b : List Stmt) (W : Pr AF) : Prop := Tr F FR (execs b F.env) W
noncomputable def appK (o x : AV) (Q : AF → Stt → Prop) (σ : Stt) : Prop := match o with
  | .ref l => ∃ xs, σ.H.rd l = some (.list xs) ∧ σ.H.own l ∧ xs.length ≤ 1000000 ∧ Q .next (σ.set l (.list (xs ++ [x])))
  | _ => False
noncomputable def isListK (o : AV) (σ : Stt) (P : Prop) : Prop := (∃ l xs, o = .ref l ∧ σ.H.rd l = some (.list xs)) ∧ P
theorem tr_append {F : Fm} {o x : Expr} {p q r : Pos} {Wo Wx : Pr AV} {pl : Sem Bool} (ho : TrE F o Wo) (hx : TrE F x Wx)
    (hc : eval (.Call (.Attribute o (Str.ofString "append") q) [x] [] p) F.env = (do
      let ov ← eval o F.env
      standAt q.atName
      let (f, first) ← holding [ov] (getMethod ov (Str.ofString "append") pl)
      callWith p f first (backTo p (starEach [x] F.env)) []) := by with_unfolding_all rfl)
    (he : starEach [x] F.env = (false, eval x F.env) :: starEach [] F.env := by with_unfolding_all rfl) (hi : interactive F.env = false := by with_unfolding_all rfl) (hs : swapsWith (.Call (.Attribute o (Str.ofString "append") q) [x] [] p) none r.line F.env = pure false := by with_unfolding_all rfl) :
    TrS F (.Expr (.Call (.Attribute o (Str.ofString "append") q) [x] [] p) r) (bnd Wo fun a Q σ => isListK a σ (Wx (fun b => appK a b Q) σ)) := by
  intro ok σ s Q hg hW
  refine wpAny_Expr (MethodCall_ (ho.use ok hg hW fun v s₁ a σ₁ r₁ h₁ g₁ st₁ => ?_) hc) hi hs
  obtain ⟨⟨l, xs, rfl, e⟩, h₁⟩ := h₁
  cases r₁
  obtain ⟨vs, ⟨n, pl⟩, qv⟩ := (g₁.hg.hr _ _ e).1
  refine getMethod_list_append pl rfl rfl ?_
  refine callWith_method1 (wpAny_items_cons (hx.use ok g₁ h₁ fun u s₂ b σ₂ r₂ h₂ g₂ st₂ => wpAny_items_nil ?_) he) he rfl
  obtain ⟨ys, e2, hown, hsz, k⟩ := h₂
  obtain ⟨us, ⟨n', pl'⟩, qu⟩ := (g₂.hg.hr _ _ e2).1
  refine append_at pl' (fun h' hsb ho' => ?_) (by rw [List.size_toArray, qu.length, sizeLine_eq]; (first | lia | omega))
  have hal : h'.get? l ≠ none := by rw [ho']; intro z; cases z
  obtain ⟨g', st'⟩ := g₂.change (tk := s₂.toks) hown (by rw [e2]; intro z; cases z) (fun b o n e => (hsb.2 b n).trans e)
    (show HObj h' l (.list (ys ++ [b])) from ⟨us ++ [u], ⟨n' + 1, by rw [ho']; simp⟩, qu.append (.cons r₂ .nil)⟩) hal
  exact Pst.of (show FR .next .next from rfl) k g' (st₁.trans (st₂.trans st'))
noncomputable def Stt.let' (σ : Stt) (i : Nat) (v : AV) : Stt := ⟨σ.loc.set i (some v), σ.H⟩
noncomputable def Storable (env : Env) (x : Str) : Prop := env.kindOf x = some .local ∨ (env.kindOf x = some .cell ∧ (env.cells.lookup x).isSome = true)
theorem nodup_get {l : List Str} (h : l.Nodup) {i j : Nat} {x : Str} (h1 : l[i]? = some x) (h2 : l[j]? = some x) : i = j := by
  induction l generalizing i j with
  | nil => simp at h1
  | cons a r ih =>
    obtain ⟨n1, n2⟩ := List.nodup_cons.mp h
    cases i with
    | zero => cases j with
      | zero => rfl
      | succ j =>
        simp only [List.getElem?_cons_zero, Option.some.injEq] at h1
        simp only [List.getElem?_cons_succ] at h2
        exact absurd (List.mem_of_getElem? h2) (h1 ▸ n1)
    | succ i => cases j with
      | zero =>
        simp only [List.getElem?_cons_zero, Option.some.injEq] at h2
        simp only [List.getElem?_cons_succ] at h1
        exact absurd (List.mem_of_getElem? h1) (h2 ▸ n1)
      | succ j =>
        simp only [List.getElem?_cons_succ] at h1 h2
        rw [ih n2 h1 h2]
theorem kind_plain {F : Fm} (ok : F.Ok) : (F.env.scope.kind == .class || (F.env.scope.kind == .module && F.env.locals != F.env.globals)) = false := by
  rw [ok.kind]; rfl
theorem store_ok {F : Fm} (ok : F.Ok) {x : Str} {i : Nat} (hi : Lk F.nm x i) (hk : Storable F.env x) {v : Value} {a : AV} (hv : VR v a) {σ : Stt} {s : Shared} (hg : Gd F σ s) {Q : Unit → Shared → Prop}
    (k : ∀ s', Gd F (σ.let' i a) s' → Sp F σ s (σ.let' i a) s' → Q () s') : wpAny F.M F.A (storeName F.env x v) Q (fun _ _ => False) s := by
  obtain ⟨⟨hr, ow, bb, al⟩, ⟨m, hm, hl⟩, cl⟩ := hg
  have oth : ∀ j y, F.nm[j]? = some y → j ≠ i → y ≠ x := fun j y e n z => n (nodup_get ok.nd (z ▸ e) hi.get)
  have locs : ∀ j y av, F.nm[j]? = some y → (σ.let' i a).loc[j]? = some (some av) → (j = i ∧ y = x ∧ av = a) ∨ (j ≠ i ∧ y ≠ x ∧ σ.loc[j]? = some (some av)) := by
    intro j y av h1 h2
    by_cases n : j = i
    · subst n
      refine .inl ⟨rfl, ?_, ?_⟩
      · have := hi.get; rw [h1] at this; exact Option.some.inj this
      · simp only [Stt.let', List.getElem?_set, if_true] at h2
        split at h2
        · cases h2; rfl
        · cases h2
    · refine .inr ⟨n, oth j y h1 n, ?_⟩
      simp only [Stt.let', List.getElem?_set] at h2
      rwa [if_neg (Ne.symm n)] at h2
  rcases hk with hk | ⟨hk, hc⟩
  · refine wpAny_storeName_local hk hm (fun h' hn' hs' => k _ ?_ ?_) (kind_plain ok)
    · have kk : ∀ b o, b ≠ F.env.locals → s.heap.get? b = some o → h'.get? b = some o := fun b o n e => (hs'.2 b n).trans e
      refine ⟨⟨fun b bo e => ⟨(hr b bo e).1.keeps fun o q => kk _ _ (fun z => (hr b bo e).2 (.inl z)) q, (hr b bo e).2⟩, ow, fun b o e => kk b o (fun z => by rw [z, ok.noL] at e; cases e) (bb b o e), fun a e => (Option.ne_none_iff_exists'.mp (al a e)).elim fun o q => some_ne (kk a o (fun z => (ow a e).1 (.inl z)) q)⟩, ⟨_, hn', fun j y av h1 h2 => ?_⟩, fun c hc => ?_⟩
      · rcases locs j y av h1 h2 with ⟨rfl, rfl, rfl⟩ | ⟨n1, n2, h3⟩
        · exact ⟨v, hv, .inl ⟨hk, by simp⟩⟩
        · obtain ⟨u, q1, q2⟩ := hl j y av h1 h3
          refine ⟨u, q1, ?_⟩
          rcases q2 with ⟨z1, z2⟩ | ⟨b1, c, b2, ⟨o, b3, b4⟩⟩
          · exact .inl ⟨z1, by simp only [if_neg n2]; exact z2⟩
          · exact .inr ⟨b1, c, b2, o, kk _ _ (ok.Cb _ (mem_of_lookup b2)).2 b3, b4⟩
      · obtain ⟨u, o, q1, q2⟩ := cl c hc
        exact ⟨u, o, kk _ _ (ok.Cb _ hc).2 q1, q2⟩
    · refine ⟨⟨_, _, rfl⟩, ⟨fun b o e n1 n2 => (hs'.2 b fun z => n1 (.inl z)).trans e, fun b e => ?_, fun _ e => .inl e, fun _ e => .inl e⟩⟩
      by_cases n : b = F.env.locals
      · subst n
        obtain ⟨o, _, _, q, _⟩ := hn'
        show h'.get? _ ≠ none
        rw [q]; intro z; cases z
      · show h'.get? b ≠ none
        rw [hs'.2 b n]; exact e
  · obtain ⟨c, hc⟩ := Option.isSome_iff_exists.mp hc
    have hcm := mem_of_lookup hc
    obtain ⟨v₀, hc₀⟩ := cl _ hcm
    refine wpAny_storeName_cell ok.kind hk hc hc₀ (fun h' hn' hs' => k _ ?_ ?_)
    · have kk : ∀ b o, b ≠ c → s.heap.get? b = some o → h'.get? b = some o := fun b o n e => (hs'.2 b n).trans e
      have nL := (ok.Cb _ hcm).2
      have noB : F.g.B.get? c = .none := (ok.Cb _ hcm).1
      refine ⟨⟨fun b bo e => ⟨(hr b bo e).1.keeps fun o q => kk _ _ (fun z => (hr b bo e).2 (.inr ⟨x, z ▸ hcm⟩)) q, (hr b bo e).2⟩, ow, fun b o e => kk b o (fun z => by rw [z, noB] at e; cases e) (bb b o e), fun a e => (Option.ne_none_iff_exists'.mp (al a e)).elim fun o q => some_ne (kk a o (fun z => (ow a e).1 (.inr ⟨x, z ▸ hcm⟩)) q)⟩, ⟨m, hm.at' fun o e => kk _ _ (Ne.symm nL) e, fun j y av h1 h2 => ?_⟩, fun d hd => ?_⟩
      · rcases locs j y av h1 h2 with ⟨rfl, rfl, rfl⟩ | ⟨n1, n2, h3⟩
        · exact ⟨v, hv, .inr ⟨.inl hk, c, hc, hn'⟩⟩
        · obtain ⟨u, q1, q2⟩ := hl j y av h1 h3
          refine ⟨u, q1, ?_⟩
          rcases q2 with z | ⟨b1, d, b2, ⟨o, b3, b4⟩⟩
          · exact .inl z
          · refine .inr ⟨b1, d, b2, o, kk _ _ (fun z => n2 ?_) b3, b4⟩
            subst z
            exact name_of_addr ok.apart (mem_of_lookup b2) hcm
      · by_cases n : d.2 = c
        · exact ⟨some v, n ▸ hn'⟩
        · obtain ⟨u, o, q1, q2⟩ := cl d hd
          exact ⟨u, o, kk _ _ n q1, q2⟩
    · refine ⟨⟨_, _, rfl⟩, ⟨fun b o e n1 n2 => (hs'.2 b fun z => n1 (.inr ⟨x, z ▸ hcm⟩)).trans e, fun b e => ?_, fun _ e => .inl e, fun _ e => .inl e⟩⟩
      by_cases n : b = c
      · subst n
        obtain ⟨o, q, _⟩ := hn'
        show h'.get? _ ≠ none
        rw [q]; intro z; cases z
      · show h'.get? b ≠ none
        rw [hs'.2 b n]; exact e
theorem FR.n : FR .next .next := rfl
noncomputable def letK (i : Nat) (a : AV) (Q : AF → Stt → Prop) (σ : Stt) : Prop := Q .next (σ.let' i a)
theorem tr_assign {F : Fm} {x : Str} {i : Nat} {e : Expr} {p q : Pos} {W : Pr AV} (he : TrE F e W) (hi : Lk F.nm x i) (hk : Storable F.env x) (hs : swapsWith e (some (.Name x p)) q.line F.env = pure false := by with_unfolding_all rfl) :
    TrS F (.Assign [.Name x p] e q) (bnd W fun a => letK i a) :=
  fun ok σ s Q hg hW => wpAny_Assign_Name (he.use ok hg hW fun v s₁ a σ₁ r₁ h₁ g₁ st₁ => store_ok ok hi hk r₁ g₁ fun s' g' st' => Pst.of FR.n h₁ g' (st₁.trans st')) hs
noncomputable def augK (op : Operator) (a b : AV) (Q : AV → Stt → Prop) (σ : Stt) : Prop := match a, b with
  | .int x, .int y => intK op x y fun z => Q (.int z) σ
  | _, _ => False
theorem tr_aug {F : Fm} {x : Str} {i : Nat} {op : Operator} {e : Expr} {p q : Pos} {W : Pr AV} (he : TrE F e W) (hi : Lk F.nm x i) (hk : Storable F.env x) :
    TrS F (.AugAssign (.Name x p) op e q) (bnd (varK i) fun a => bnd W fun b Q => augK op a b fun c => letK i c Q) :=
  fun ok σ s Q hg hW => wpAny_AugAssign_Name ((tr_load hi).use ok hg hW fun v s₁ a σ₁ r₁ h₁ g₁ st₁ => he.use ok g₁ h₁ fun u s₂ b σ₂ r₂ h₂ g₂ st₂ => by
    try dsimp only at h₂
    unfold augK at h₂
    split at h₂
    · obtain ⟨t, rfl⟩ := r₁
      obtain ⟨t', rfl⟩ := r₂
      refine intK_iok h₂ fun z t'' hz => store_ok ok hi hk VR.i g₂.toks fun s' g' st' => Pst.of FR.n hz g' (st₁.trans (st₂.trans (Sp.toks.trans st')))
    · exact h₂.elim)
theorem tr_ret {F : Fm} {e : Expr} {p : Pos} {W : Pr AV} (he : TrE F e W) : TrS F (.Return (some e) p) (bnd W fun a Q => Q (.ret a)) :=
  fun ok σ s Q hg hW => wpAny_Return_some (he.use ok hg hW fun v s₁ a σ₁ r₁ h₁ g₁ st₁ => Pst.of (show FR (.ret v) (.ret a) from ⟨v, rfl, r₁⟩) h₁ g₁ st₁)
theorem tr_cont {F : Fm} {p : Pos} : TrS F (.Continue p) (fun Q => Q .cont) :=
  fun ok σ s Q hg hW => wpAny_Continue (Pst.of (show FR .cont .cont from rfl) hW hg .refl)
theorem tr_dead {F : Fm} {st : Stmt} : TrS F st (fun Q σ => False) := fun ok σ s Q hg hW => hW.elim
theorem tr_expr {F : Fm} {e : Expr} {p : Pos} {W : Pr AV} (he : TrE F e W) (hi : interactive F.env = false := by with_unfolding_all rfl) (hs : swapsWith e none p.line F.env = pure false := by with_unfolding_all rfl) : TrS F (.Expr e p) (bnd W fun a Q σ => a = .none ∧ Q .next σ) :=
  fun ok σ s Q hg hW => wpAny_Expr (he.use ok hg hW fun v s₁ a σ₁ r₁ h₁ g₁ st₁ => by obtain ⟨rfl, h₁⟩ := h₁; cases r₁; exact Pst.of FR.n h₁ g₁ st₁) hi hs
theorem tr_if {F : Fm} {c : Expr} {t e : List Stmt} {p : Pos} {Wc : Pr Bool} {Wt We : Pr AF} (hc : TrC F c Wc) (ht : TrB F t Wt) (he : TrB F e We) : TrS F (.If c t e p) (bnd Wc fun b Q σ => iteK b (Wt Q σ) (We Q σ)) :=
  fun ok σ s Q hg hW => wpAny_If (hc.use ok hg hW fun v s₁ a σ₁ r₁ h₁ g₁ st₁ => by
    subst r₁
    cases v with
    | true => simp only [iteK, if_true] at h₁ ⊢; exact wpAny_mono (ht ok _ _ _ g₁ h₁) (fun _ _ p => p.after st₁) fun _ _ x => x
    | false => simp only [iteK, Bool.false_eq_true, if_false] at h₁ ⊢; exact wpAny_mono (he ok _ _ _ g₁ h₁) (fun _ _ p => p.after st₁) fun _ _ x => x)
theorem trb_nil {F : Fm} : TrB F [] (fun Q => Q .next) := fun ok σ s Q hg hW => wpAny_execs_nil (Pst.of FR.n hW hg .refl)
noncomputable def thenK (W : Pr AF) (Q : AF → Stt → Prop) (f : AF) (σ : Stt) : Prop := match f with
  | .next => W Q σ
  | f => Q f σ
noncomputable def seqK (W Wb : Pr AF) (Q : AF → Stt → Prop) (σ : Stt) : Prop := W (thenK Wb Q) σ
theorem trb_cons {F : Fm} {st : Stmt} {b : List Stmt} {W Wb : Pr AF} (h : TrS F st W) (hb : TrB F b Wb) : TrB F (st :: b) (seqK W Wb) :=
  fun ok σ s Q hg hW => wpAny_execs_cons (h.use ok hg (show W (thenK Wb Q) σ from hW) fun v s₁ a σ₁ r₁ h₁ g₁ st₁ => by
    cases a with
    | next => cases r₁; exact wpAny_mono (hb ok _ _ _ g₁ h₁) (fun _ _ p => p.after st₁) fun _ _ x => x
    | brk => cases r₁; exact Pst.of (show FR .brk .brk from rfl) h₁ g₁ st₁
    | cont => cases r₁; exact Pst.of (show FR .cont .cont from rfl) h₁ g₁ st₁
    | ret w => obtain ⟨u, rfl, hu⟩ := r₁; exact Pst.of (show FR (.ret u) (.ret w) from ⟨u, rfl, hu⟩) h₁ g₁ st₁)
noncomputable def setK (o i v : AV) (Q : AF → Stt → Prop) (σ : Stt) : Prop := match o, i with
  | .ref l, .int k => ∃ xs, σ.H.rd l = some (.list xs) ∧ σ.H.own l ∧ 0 ≤ k ∧ k < xs.length ∧ xs.length ≤ 1000000 ∧ Q .next (σ.set l (.list (xs.set k.toNat v)))
  | _, _ => False
theorem tr_setitem {F : Fm} {o i e : Expr} {p q : Pos} {Wo Wi We : Pr AV} (he : TrE F e We) (ho : TrE F o Wo) (hi : TrE F i Wi) (hs : swapsWith e (some (.Subscript o i p)) q.line F.env = pure false := by with_unfolding_all rfl) :
    TrS F (.Assign [.Subscript o i p] e q) (bnd We fun v => bnd Wo fun a => bnd Wi fun k => setK a k v) := by
  intro ok σ s Q hg hW
  refine wpAny_Assign_Subscript (he.use ok hg hW fun v s₁ a σ₁ r₁ h₁ g₁ st₁ => ho.use ok g₁ h₁ fun u s₂ b σ₂ r₂ h₂ g₂ st₂ => hi.use ok g₂ h₂ fun w s₃ c σ₃ r₃ h₃ g₃ st₃ => ?_) hs
  try dsimp only at h₃
  unfold setK at h₃
  split at h₃
  · rename_i l k
    obtain ⟨xs, e, hown, k0, k1, hsz, hk⟩ := h₃
    cases r₂
    obtain ⟨t, rfl⟩ := r₃
    obtain ⟨vs, ⟨n, pl⟩, qv⟩ := (g₃.hg.hr _ _ e).1
    have el : vs.length = xs.length := qv.length
    refine ki_setAt pl k0 (by omega) (by rw [List.size_toArray, el]; omega) ?_
    have q := PySem.IsL.update pl (fun z => z.setIfInBounds k.toNat v)
    have e3 : (vs.toArray.setIfInBounds k.toNat v) = (vs.set k.toNat v).toArray := by
      apply Array.toList_inj.mp; simp
    rw [e3] at q
    obtain ⟨g', st'⟩ := g₃.change (tk := s₃.toks) (ao := .list (xs.set k.toNat a)) (h' := s₃.heap.update l (Obj.mapSeq fun z => z.setIfInBounds k.toNat v)) hown (by rw [e]; intro z; cases z) (fun b o n e => (Heap.get?_update_ne _ _ _ _ n).trans e) ⟨vs.set k.toNat v, ⟨_, q⟩, qv.set r₁ _⟩
      (fun z => by rw [show (s₃.heap.update l (Obj.mapSeq fun z => z.setIfInBounds k.toNat v)).get? l = _ from q] at z; cases z)
    exact Pst.of FR.n hk g' (st₁.trans (st₂.trans (st₃.trans st')))
  · exact h₃.elim
inductive Tgts (F : Fm) : List Expr → List Nat → Prop
  | nil : Tgts F [] []
  | cons {x p i ts is} : Lk F.nm x i → Storable F.env x → Tgts F ts is → Tgts F (.Name x p :: ts) (i :: is)
inductive Nms (F : Fm) : List Str → List Nat → Prop
  | nil : Nms F [] []
  | cons {x i ts is} : Lk F.nm x i → Storable F.env x → Nms F ts is → Nms F (x :: ts) (i :: is)
noncomputable def Stt.lets : Stt → List Nat → List AV → Stt
  | σ, i :: is, a :: as => (σ.let' i a).lets is as
  | σ, _, _ => σ
noncomputable def letsK (is : List Nat) (as : List AV) (Q : AF → Stt → Prop) (σ : Stt) : Prop := Q .next (σ.lets is as)
theorem Tgts.length {F : Fm} {ts : List Expr} {is : List Nat} (h : Tgts F ts is) : (assignEach ts F.env).length = is.length ∧ (assignEach ts F.env).findIdx? (·.1) = none := by
  induction h with
  | nil => exact ⟨rfl, rfl⟩
  | cons _ _ _ ih =>
    show ((false, _) :: assignEach _ F.env).length = _ ∧ _
    refine ⟨by simp [ih.1], ?_⟩
    show ((false, _) :: assignEach _ F.env).findIdx? _ = none
    rw [List.findIdx?_cons]
    simp [ih.2]
theorem stores_ok {F : Fm} (ok : F.Ok) {ts : List Expr} {is : List Nat} (h : Tgts F ts is) : ∀ {vs : List Value} {as : List AV}, VRs vs as → as.length = is.length → ∀ {σ : Stt} {s : Shared}, Gd F σ s → ∀ {Q : Unit → Shared → Prop},
    (∀ s', Gd F (σ.lets is as) s' → Sp F σ s (σ.lets is as) s' → Q () s') → wpAny F.M F.A (assignInOrder ((assignEach ts F.env).map (·.2)) vs) Q (fun _ _ => False) s := by
  induction h with
  | nil =>
    intro vs as hv hl σ s hg Q k
    cases hv with
    | nil => exact assignInOrder_nil (k _ hg .refl)
    | cons _ _ => cases hl
  | cons hi hk _ ih =>
    intro vs as hv hl σ s hg Q k
    cases hv with
    | nil => cases hl
    | cons a b =>
      refine assignInOrder_cons (PySem.wpAny_assign_Name (store_ok ok hi hk a hg fun s' g' st' => ?_))
      exact ih b (by simpa using hl) g' fun s'' g'' st'' => k _ g'' (st'.trans st'')
theorem VRs.snoc {vs : List Value} {xs : List AV} (h : VRs vs xs) {v : Value} {x : AV} (k : VR v x) : VRs (vs ++ [v]) (xs ++ [x]) := h.append (.cons k .nil)
theorem VRs.reverse {vs : List Value} {xs : List AV} (h : VRs vs xs) : VRs vs.reverse xs.reverse := by
  induction h with
  | nil => exact .nil
  | cons a _ ih => simpa using ih.snoc a
theorem Nms.append {F : Fm} {xs ys : List Str} {is js : List Nat} (h : Nms F xs is) (k : Nms F ys js) : Nms F (xs ++ ys) (is ++ js) := by
  induction h with
  | nil => exact k
  | cons a b _ ih => exact .cons a b ih
theorem Nms.reverse {F : Fm} {xs : List Str} {is : List Nat} (h : Nms F xs is) : Nms F xs.reverse is.reverse := by
  induction h with
  | nil => exact .nil
  | cons a b _ ih => simpa using ih.append (.cons a b .nil)
theorem Nms.length {F : Fm} {xs : List Str} {is : List Nat} (h : Nms F xs is) : xs.length = is.length := by
  induction h with
  | nil => rfl
  | cons _ _ _ ih => simp [ih]
theorem binds_ok {F : Fm} (ok : F.Ok) {xs : List Str} {is : List Nat} (h : Nms F xs is) : ∀ {vs : List Value} {as : List AV}, VRs vs as → as.length = is.length → ∀ {σ : Stt} {s : Shared}, Gd F σ s → ∀ {Q : Unit → Shared → Prop},
    (∀ s', Gd F (σ.lets is as) s' → Sp F σ s (σ.lets is as) s' → Q () s') → wpAny F.M F.A (assignInOrder (xs.map fun n => bindName F.env n) vs) Q (fun _ _ => False) s := by
  induction h with
  | nil =>
    intro vs as hv hl σ s hg Q k
    cases hv with
    | nil => exact assignInOrder_nil (k _ hg .refl)
    | cons _ _ => cases hl
  | cons hi hk _ ih =>
    intro vs as hv hl σ s hg Q k
    cases hv with
    | nil => cases hl
    | cons a b =>
      refine assignInOrder_cons (wpAny_bindName (store_ok ok hi hk a hg fun s' g' st' => ?_))
      exact ih b (by simpa using hl) g' fun s'' g'' st'' => k _ g'' (st'.trans st'')
theorem extBut_size {h h' : Heap} (x : Heap.ExtBut h.objs.size h h') : ∀ b o, h.get? b = some o → h'.get? b = some o := fun b o e => x b o (Nat.ne_of_lt (Heap.lt_size e)) e
theorem tr_unpackD {F : Fm} {ts es : List Expr} {is : List Nat} {k k' : Nat} {p p' q : Pos} {W : Pr (List AV)} (he : TrL F es p' W) (ht : Tgts F ts is)
    (hs : swapsWithSole [.Tuple ts k p] (.Tuple es k' p') q.line F.env = pure false := by with_unfolding_all rfl)
    (hw : swappedStores [.Tuple ts k p] (.Tuple es k' p') F.env = pure none := by with_unfolding_all rfl) :
    TrS F (.Assign [.Tuple ts k p] (.Tuple es k' p') q) (bnd W fun as Q σ => (as.length = is.length ∧ as.length ≤ 1000000) ∧ letsK is as Q σ) := by
  intro ok σ s Q hg hW
  refine Assign_Tuple (Tuple_ (he.use ok hg hW fun vs s₁ as σ₁ r₁ h₁ g₁ st₁ => ?_)) hs hw
  obtain ⟨⟨e, hsz⟩, h₁⟩ := h₁
  refine PySem.wpAny_newTuple ?_ (by rw [r₁.length, sizeLine_eq]; omega)
  have tu : IsTup (s₁.heap.push { cls := .type "tuple", data := .seq vs.toArray }) s₁.heap.objs.size vs.toArray := ⟨_, Heap.get?_push_size _ rfl, rfl, 0, rfl⟩
  refine assign_Tuple_tuple ok.hh tu (by rw [ht.length.1, List.size_toArray, r₁.length, e]) ht.length.2 fun h' hx => ?_
  have kk : ∀ b o, s₁.heap.get? b = some o → h'.get? b = some o := fun b o e => extBut_size hx b o (Heap.get?_push_of_some _ e)
  refine stores_ok ok ht (as := as) (by simpa using r₁) e (g₁.grow (tk := s₁.toks) kk) fun s' g' st' => ?_
  exact Pst.of FR.n h₁ g' (st₁.trans ((Sp.grow (tk := s₁.toks) kk).trans st'))
inductive TN (F : Fm) : List Expr → List Str → List Nat → Prop
  | nil : TN F [] [] []
  | cons {x p i ts xs is} : Lk F.nm x i → Storable F.env x → TN F ts xs is → TN F (.Name x p :: ts) (x :: xs) (i :: is)
theorem TN.nms {F : Fm} {ts : List Expr} {xs : List Str} {is : List Nat} (h : TN F ts xs is) : Nms F xs is := by
  induction h with
  | nil => exact .nil
  | cons a b _ ih => exact .cons a b ih
theorem tr_unpackX {F : Fm} {ts es : List Expr} {is : List Nat} {xs : List Str} {k k' : Nat} {p p' q : Pos} {W : Pr (List AV)} (he : TrL F es p' W) (htn : TN F ts xs is)
    (hw : swappedStores [.Tuple ts k p] (.Tuple es k' p') F.env = pure (some xs))
    (hs : swapsWithSole [.Tuple ts k p] (.Tuple es k' p') q.line F.env = pure false := by with_unfolding_all rfl) :
    TrS F (.Assign [.Tuple ts k p] (.Tuple es k' p') q) (bnd W fun as Q σ => (as.length = is.length ∧ as.length ≤ 1000000) ∧ letsK is.reverse as.reverse Q σ) := by
  have ht := htn.nms
  intro ok σ s Q hg hW
  refine Assign_Tuple_swapped (Tuple_ (he.use ok hg hW fun vs s₁ as σ₁ r₁ h₁ g₁ st₁ => ?_)) hs hw
  obtain ⟨⟨e, hsz⟩, h₁⟩ := h₁
  refine PySem.wpAny_newTuple ?_ (by rw [r₁.length, sizeLine_eq]; omega)
  have tu : IsTup (s₁.heap.push { cls := .type "tuple", data := .seq vs.toArray }) s₁.heap.objs.size vs.toArray := ⟨_, Heap.get?_push_size _ rfl, rfl, 0, rfl⟩
  have en : xs.length = vs.toArray.size := by rw [ht.length, List.size_toArray, r₁.length, e]
  rw [en]
  refine unpackItems_tuple ok.hh tu fun h' hx => ?_
  have kk : ∀ b o, s₁.heap.get? b = some o → h'.get? b = some o := fun b o e => extBut_size hx b o (Heap.get?_push_of_some _ e)
  refine binds_ok ok ht.reverse (as := as.reverse) (by simpa using r₁.reverse) (by simpa using e) (g₁.grow (tk := s₁.toks) kk) fun s' g' st' => ?_
  exact Pst.of FR.n h₁ g' (st₁.trans ((Sp.grow (tk := s₁.toks) kk).trans st'))
noncomputable def tupK (is : List Nat) (a : AV) (Q : AF → Stt → Prop) (σ : Stt) : Prop := match a with
  | .ref t => ∃ xs, σ.H.rd t = some (.tup xs) ∧ xs.length = is.length ∧ letsK is xs Q σ
  | _ => False
theorem tr_unpack {F : Fm} {ts : List Expr} {is : List Nat} {k : Nat} {e : Expr} {p q : Pos} {W : Pr AV} (he : TrE F e W) (ht : Tgts F ts is)
    (hs : swapsWithSole [.Tuple ts k p] e q.line F.env = pure false := by with_unfolding_all rfl)
    (hw : swappedStores [.Tuple ts k p] e F.env = pure none := by with_unfolding_all rfl) :
    TrS F (.Assign [.Tuple ts k p] e q) (bnd W fun a => tupK is a) := by
  intro ok σ s Q hg hW
  refine Assign_Tuple (he.use ok hg hW fun v s₁ a σ₁ r₁ h₁ g₁ st₁ => ?_) hs hw
  try dsimp only at h₁
  unfold tupK at h₁
  split at h₁
  · obtain ⟨xs, e, hl, k⟩ := h₁
    cases r₁
    obtain ⟨vs, tu, hv⟩ := (g₁.hg.hr _ _ e).1
    refine assign_Tuple_tuple ok.hh tu (by rw [ht.length.1, List.size_toArray, hv.length, hl]) ht.length.2 fun h' hx => ?_
    have kk := extBut_size hx
    refine stores_ok ok ht (as := xs) (by simpa using hv) hl (g₁.grow (tk := s₁.toks) kk) fun s' g' st' => ?_
    exact Pst.of FR.n k g' (st₁.trans ((Sp.grow (tk := s₁.toks) kk).trans st'))
  · exact h₁.elim
noncomputable def loopF (I : Nat → Stt → Prop) (Q : AF → Stt → Prop) (n : Nat) (f : AF) (σ : Stt) : Prop := match f with
  | .next => ∃ m, m < n ∧ I m σ
  | .cont => ∃ m, m < n ∧ I m σ
  | .brk => Q .next σ
  | .ret v => Q (.ret v) σ
noncomputable def whileK (Wc : Pr Bool) (Wb : Pr AF) (Q : AF → Stt → Prop) (σ : Stt) : Prop :=
  ∃ I : Nat → Stt → Prop, (∃ n, I n σ) ∧ ∀ n σ', I n σ' → Wc (fun b σ₁ => iteK b (Wb (loopF I Q n) σ₁) (Q .next σ₁)) σ'
theorem tr_while {F : Fm} {c : Expr} {b : List Stmt} {p : Pos} {Wc : Pr Bool} {Wb : Pr AF} (hc : TrC F c Wc) (hb : TrB F b Wb) : TrS F (.While c b [] p) (whileK Wc Wb) := by
  intro ok σ s Q hg ⟨I, ⟨n, h0⟩, hI⟩
  refine wpAny_While (codeAny_whileLoop (fun n s' => ∃ σ', Gd F σ' s' ∧ Sp F σ s σ' s' ∧ I n σ') ?_ n ⟨σ, hg, .refl, h0⟩)
  rintro n s' ⟨σ', g', st', hn⟩
  refine wpAny_mono (hc ok _ _ _ g' (hI n σ' hn)) (fun v s₁ ⟨b', σ₁, r₁, h₁, g₁, st₁⟩ => ?_) PassesOwn.never
  subst r₁
  cases v with
  | false =>
    simp only [iteK, Bool.false_eq_true, if_false] at h₁ ⊢
    exact wpAny_execs_nil (Pst.of FR.n h₁ g₁ (st'.trans st₁))
  | true =>
    simp only [iteK, if_true] at h₁ ⊢
    refine wpAny_mono (hb ok _ _ _ g₁ h₁) (fun f s₂ ⟨a, σ₂, r₂, h₂, g₂, st₂⟩ => ?_) PassesOwn.never
    cases a with
    | next => cases r₂; obtain ⟨m, h3, h4⟩ := h₂; exact ⟨m, h3, σ₂, g₂, st'.trans (st₁.trans st₂), h4⟩
    | cont => cases r₂; obtain ⟨m, h3, h4⟩ := h₂; exact ⟨m, h3, σ₂, g₂, st'.trans (st₁.trans st₂), h4⟩
    | brk => cases r₂; exact Pst.of FR.n h₂ g₂ (st'.trans (st₁.trans st₂))
    | ret w => obtain ⟨u, rfl, hu⟩ := r₂; exact Pst.of (show FR (.ret u) (.ret w) from ⟨u, rfl, hu⟩) h₂ g₂ (st'.trans (st₁.trans st₂))
noncomputable def ItPost (F : Fm) (Q : List AV → Stt → Prop) (σ : Stt) (s : Shared) (it : Value) (s₂ : Shared) : Prop :=
  ∃ I fp wr P St items σ₂, it = .ref I ∧ Walks F.g.prog F.g.w F.A I fp wr (items : List AV).length P St ∧ St 0 s₂.heap ∧ (∀ b ∈ fp, ¬ F.exm b ∧ ¬ σ₂.H.own b) ∧ (∀ i h, St i h → ∀ b ∈ fp, h.get? b ≠ none) ∧
    (∀ b ∈ wr, s.heap.get? b = none) ∧ (∀ i v, P i v → i < items.length → ∃ a, items[i]? = some a ∧ VR v a) ∧ Gd F σ₂ s₂ ∧ Sp F σ s σ₂ s₂ ∧ (∀ b ∈ wr, σ₂.H.rd b = none) ∧ Q items σ₂
noncomputable def TrI (F : Fm) (iter : Expr) (W : Pr (List AV)) : Prop :=
  F.Ok → ∀ σ s Q, Gd F σ s → W Q σ → wpAny F.M F.A (eval iter F.env) (fun xv s₁ => wpAny F.M F.A (pyIter xv) (ItPost F Q σ s) (fun _ _ => False) s₁) (fun _ _ => False) s
noncomputable def turnF (I : Nat → Stt → Prop) (Q : AF → Stt → Prop) (j : Nat) (f : AF) (σ : Stt) : Prop := match f with
  | .next => I (j + 1) σ
  | .cont => I (j + 1) σ
  | .brk => Q .next σ
  | .ret v => Q (.ret v) σ
noncomputable def forK (i : Nat) (Wb : Pr AF) (Q : AF → Stt → Prop) (items : List AV) (σ : Stt) : Prop :=
  ∃ I : Nat → Stt → Prop, I 0 σ ∧ (∀ j a σ', items[j]? = some a → I j σ' → letK i a (thenK (fun Q' => Wb Q') (turnF I Q j)) σ') ∧ ∀ σ', I items.length σ' → Q .next σ'
theorem Gd.turned {F : Fm} (ok : F.Ok) {σ : Stt} {s : Shared} (hg : Gd F σ s) {wr : List Addr} (h0 : ∀ b ∈ wr, ¬ σ.H.own b) (h1 : ∀ b ∈ wr, σ.H.rd b = none) (h2 : ∀ b ∈ wr, F.g.B.get? b = none) (h3 : ∀ b ∈ wr, ¬ F.exm b) {h' : Heap} {tk : Nat}
    (k : ∀ b o, b ∉ wr → s.heap.get? b = some o → h'.get? b = some o) : Gd F σ { s with heap := h', toks := tk } := by
  obtain ⟨⟨hr, ow, bb, al⟩, ⟨m, hm, hl⟩, cl⟩ := hg
  have nL : F.env.locals ∉ wr := fun h => h3 _ h (.inl rfl)
  have nC : ∀ y c, (y, c) ∈ F.env.cells → c ∉ wr := fun y c hm h => h3 _ h (.inr ⟨y, hm⟩)
  refine ⟨⟨fun a ao e => ⟨(hr a ao e).1.keeps fun o q => k a o (fun h => by rw [h1 a h] at e; cases e) q, (hr a ao e).2⟩, ow, fun b o e => k b o (fun h => by rw [h2 b h] at e; cases e) (bb b o e), fun a e => (Option.ne_none_iff_exists'.mp (al a e)).elim fun o q => some_ne (k a o (fun h => h0 a h e) q)⟩,
    ⟨m, hm.at' fun o e => k _ _ nL e, fun i y av z1 z2 => ?_⟩, fun c hc => ?_⟩
  · obtain ⟨v, q1, q2⟩ := hl i y av z1 z2
    refine ⟨v, q1, ?_⟩
    rcases q2 with q2 | ⟨b1, c, b2, ⟨o, b3, b4⟩⟩
    · exact .inl q2
    · exact .inr ⟨b1, c, b2, o, k _ _ (nC _ _ (mem_of_lookup b2)) b3, b4⟩
  · obtain ⟨v, o, q1, q2⟩ := cl c hc
    exact ⟨v, o, k _ _ (nC c.1 _ hc) q1, q2⟩
theorem Sp.turned {F : Fm} {σ σ' : Stt} {s s' : Shared} (x : Sp F σ s σ' s') {wr : List Addr} (h1 : ∀ b ∈ wr, s.heap.get? b = none) {h' : Heap} {tk : Nat} (k : ∀ b o, b ∉ wr → s'.heap.get? b = some o → h'.get? b = some o) :
    Sp F σ s σ' { s' with heap := h', toks := tk } := by
  obtain ⟨⟨h₁, t₁, rfl⟩, hs⟩ := x
  refine ⟨⟨_, _, rfl⟩, ⟨fun b o e n1 n2 => k b o (fun h => by rw [h1 b h] at e; cases e) (hs.keep b o e n1 n2), fun b e => ?_, hs.own, hs.rd⟩⟩
  have := hs.alive b e
  cases q : h₁.get? b with
  | none => exact absurd q this
  | some o =>
    show h'.get? b ≠ none
    rw [k b o (fun h => e (h1 b h)) q]; intro z; cases z
theorem tr_for {F : Fm} {x : Str} {i : Nat} {iter : Expr} {b : List Stmt} {p q : Pos} {WI : Pr (List AV)} {Wb : Pr AF} (hI : TrI F iter WI) (hb : TrB F b Wb) (hi : Lk F.nm x i) (hk : Storable F.env x)
    (hs : ∀ x, foldedSetIterable iter F.env x = pure x := by intro _; with_unfolding_all rfl) : TrS F (.For (.Name x p) iter b [] q) (bnd WI fun items Q => forK i Wb Q items) := by
  intro ok σ s Q hg hW
  refine wpAny_For (wpAny_mono (hI ok σ s _ hg hW) (fun xv s₁ h₁ => wpAny_mono h₁ (fun it s₂ h₂ => ?_) fun _ _ x => x.elim) fun _ _ x => x.elim) hs
  obtain ⟨I, fp, wr, P, St, items, σ₂, rfl, W, hst, hfp, hal, hwr, hP, g₂, st₂, hrd, J, hJ0, hJt, hJe⟩ := h₂
  have wrx : ∀ b ∈ wr, ¬ F.exm b := fun b h => (hfp b (W.sub b h)).1
  have wrB : ∀ b ∈ wr, F.g.B.get? b = none := fun b h => by
    cases q : F.g.B.get? b with
    | none => rfl
    | some o => have := hg.hg.bb _ _ q; rw [hwr b h] at this; cases this
  refine codeAny_forLoop (fun n s' => ∃ j σ', n + j = items.length + 1 ∧ j ≤ items.length ∧ St j s'.heap ∧ Gd F σ' s' ∧ Sp F σ s σ' s' ∧ (∀ b ∈ fp, ¬ σ'.H.own b) ∧ (∀ b ∈ wr, σ'.H.rd b = none) ∧ J j σ') ?_ (items.length + 1)
    ⟨0, σ₂, rfl, Nat.zero_le _, hst, g₂, st₂, fun b h => (hfp b h).2, hrd, hJ0⟩
  rintro n s' ⟨j, σ', hn, hj, hst', g', st', how, hrd', hF⟩
  by_cases hlt : j < items.length
  · refine W.item j _ _ _ hlt hst' fun v h' tk hPv hst₁ hk₁ => ?_
    obtain ⟨a, ha, hva⟩ := hP j v hPv hlt
    have gT := g'.turned ok (fun b h => how b (W.sub b h)) hrd' wrB wrx (tk := tk) hk₁
    have sT := st'.turned hwr (tk := tk) hk₁
    replace hF := hJt j a σ' ha hF
    refine PySem.wpAny_assign_Name (wpAny_mono (store_ok ok hi hk hva gT (Q := fun _ s₃ => Gd F (σ'.let' i a) s₃ ∧ Sp F σ' { s' with heap := h', toks := tk } (σ'.let' i a) s₃) fun s₃ g₃ st₃ => ⟨g₃, st₃⟩) (fun _ s₃ ⟨g₃, st₃⟩ => ?_) fun _ _ x => x.elim)
    refine wpAny_mono (hb ok _ _ _ g₃ hF) (fun f s₄ ⟨c, σ₄, r₄, h₄, g₄, st₄⟩ => ?_) fun _ _ x => x.elim
    have sAll := sT.trans (st₃.trans st₄)
    have sB := st₃.trans st₄
    have alive1 : ∀ b ∈ fp, h'.get? b ≠ none := hal _ _ hst₁
    have go : ∀ nx, (nx = AF.next ∨ nx = AF.cont) → c = nx → ∃ m, m < n ∧ ∃ j σ', m + j = items.length + 1 ∧ j ≤ items.length ∧ St j s₄.heap ∧ Gd F σ' s₄ ∧ Sp F σ s σ' s₄ ∧ (∀ b ∈ fp, ¬ σ'.H.own b) ∧ (∀ b ∈ wr, σ'.H.rd b = none) ∧ J j σ' := by
      intro nx hnx hc
      refine ⟨n - 1, by (first | lia | omega), j + 1, σ₄, by (first | lia | omega), hlt, ?_, g₄, sAll, fun b hbf e => ?_, fun b hbw => ?_, ?_⟩
      · refine W.frame _ _ _ hst₁ fun b hbf o e => ?_
        exact sB.hs.keep b o e (hfp b hbf).1 (how b hbf)
      · rcases sB.hs.own b e with e | e
        · exact how b hbf e
        · exact alive1 b hbf e
      · cases q : σ₄.H.rd b with
        | none => rfl
        | some z =>
          rcases sB.hs.rd b (by rw [q]; intro y; cases y) with e | e
          · exact absurd (hrd' b hbw) e
          · exact absurd e (alive1 b (W.sub b hbw))
      · rcases hnx with rfl | rfl <;> (subst hc; exact h₄)
    cases c with
    | next => cases r₄; exact go _ (.inl rfl) rfl
    | cont => cases r₄; exact go _ (.inr rfl) rfl
    | brk => cases r₄; exact Pst.of FR.n h₄ g₄ sAll
    | ret w => obtain ⟨u, rfl, hu⟩ := r₄; exact Pst.of (show FR (.ret u) (.ret w) from ⟨u, rfl, hu⟩) h₄ g₄ sAll
  · have hje : j = items.length := by (first | lia | omega)
    subst hje
    refine W.done _ _ _ hst' fun h' tk hk₁ => ?_
    exact wpAny_execs_nil (Pst.of FR.n (hJe _ hF) (g'.turned ok (fun b h => how b (W.sub b h)) hrd' wrB wrx (tk := tk) hk₁) (st'.turned hwr (tk := tk) hk₁))
noncomputable def Stt.frz (σ : Stt) (l : Addr) : Stt := ⟨σ.loc, ⟨σ.H.rd, fun a => a ≠ l ∧ σ.H.own a⟩⟩
theorem Gd.frz {F : Fm} {σ : Stt} {s : Shared} (hg : Gd F σ s) (l : Addr) : Gd F (σ.frz l) s := by
  obtain ⟨⟨hr, ow, bb, al⟩, ns, cl⟩ := hg
  exact ⟨⟨hr, fun a e => ow a e.2, bb, fun a e => al a e.2⟩, ns, cl⟩
theorem Sp.frz {F : Fm} {σ : Stt} {s : Shared} (l : Addr) : Sp F σ s (σ.frz l) s := ⟨⟨_, _, rfl⟩, ⟨fun _ _ e _ _ => e, fun _ e => e, fun _ e => .inl e.2, fun _ e => .inl e⟩⟩
theorem exm_alive {F : Fm} {σ : Stt} {s : Shared} (hg : Gd F σ s) {a : Addr} (h : F.exm a) : s.heap.get? a ≠ none := by
  rcases h with rfl | ⟨y, hy⟩
  · obtain ⟨m, ⟨o, _, _, e, _⟩, _⟩ := hg.ns; exact some_ne e
  · obtain ⟨v, o, e, _⟩ := hg.cells _ hy; exact some_ne e
theorem rd_alive {F : Fm} {σ : Stt} {s : Shared} (hg : Gd F σ s) {a : Addr} {ao : AObj} (h : σ.H.rd a = some ao) : s.heap.get? a ≠ none := (hg.hg.hr _ _ h).1.alive
theorem none_of {α : Type} {o : Option α} (h : ∀ x, o = some x → False) : o = none := by
  cases o with
  | none => rfl
  | some x => exact (h x rfl).elim
theorem size_push1 (h : Heap) (o : Obj) : (h.push o).objs.size = h.objs.size + 1 := Heap.size_push ..
noncomputable def listI (a : AV) (Q : List AV → Stt → Prop) (σ : Stt) : Prop := match a with
  | .ref l => ∃ xs, σ.H.rd l = some (.list xs) ∧ Q xs (σ.frz l)
  | _ => False
theorem tri_list {F : Fm} {e : Expr} {W : Pr AV} (he : TrE F e W) : TrI F e (bnd W fun a => listI a) := by
  intro ok σ s Q hg hW
  refine he.use ok hg hW fun v s₁ a σ₁ r₁ h₁ g₁ st₁ => ?_
  try dsimp only at h₁
  unfold listI at h₁
  split at h₁
  · rename_i l
    obtain ⟨xs, e, k⟩ := h₁
    cases r₁
    obtain ⟨vs, pl, q⟩ := (g₁.hg.hr _ _ e).1
    refine wpAny_pyIter_list pl.isList ?_
    have hne : l ≠ s₁.heap.objs.size := by
      obtain ⟨n, z⟩ := pl
      exact Nat.ne_of_lt (Heap.lt_size z)
    have kk : ∀ b o, s₁.heap.get? b = some o → (s₁.heap.push { cls := .type "list_iterator", data := .fields #[.ref l, .int 0 0] }).get? b = some o := fun b o e => Heap.get?_push_of_some _ e
    have gz := fresh_size s₁.heap
    have gs : s.heap.get? s₁.heap.objs.size = none := by
      cases z : s.heap.get? s₁.heap.objs.size with
      | none => rfl
      | some o => exact absurd gz (st₁.hs.alive _ (some_ne z))
    have W := Walks.list (prog := F.g.prog) (w := F.g.w) ok.hh s₁.heap.objs.size l hne vs.toArray
    have el : vs.toArray.size = xs.length := by rw [List.size_toArray, q.length]
    rw [el] at W
    refine ⟨_, _, _, _, _, xs, σ₁.frz l, rfl, W, ⟨⟨_, Heap.get?_push_size _ rfl, rfl, rfl⟩, pl.isList.push _⟩, fun b hb => ?_, ?_, fun b hb => ?_, fun i v hv hi => ?_, (g₁.grow (tk := s₁.toks) kk).frz l, st₁.trans ((Sp.grow (tk := s₁.toks) kk).trans (Sp.frz l)), fun b hb => ?_, k⟩
    · rcases List.mem_cons.mp hb with rfl | hb
      · exact ⟨fun z => exm_alive g₁ z gz, fun z => g₁.hg.al _ z.2 gz⟩
      · rw [List.mem_singleton.mp hb]; exact ⟨(g₁.hg.hr _ _ e).2, fun z => z.1 rfl⟩
    · rintro i h ⟨⟨o, z1, _⟩, ⟨o2, z2, _⟩⟩ b hb
      rcases List.mem_cons.mp hb with rfl | hb
      · exact some_ne z1
      · rw [List.mem_singleton.mp hb]; exact some_ne z2
    · rw [List.mem_singleton.mp hb]; exact gs
    · obtain ⟨w, z1, z2⟩ := q.get i xs[i] (List.getElem?_eq_getElem hi)
      have : vs[i]? = some v := by simpa using hv
      rw [this] at z1; cases z1
      exact ⟨_, List.getElem?_eq_getElem hi, z2⟩
    · rw [List.mem_singleton.mp hb]
      exact none_of fun ao z => absurd gz (rd_alive g₁ z)
  · exact h₁.elim
noncomputable def rgL (a c : Int) (n : Nat) : List AV := (List.range n).map fun (i : Nat) => AV.int (a + (i : Int) * c)
theorem rgL_get {a c : Int} {n i : Nat} (h : i < n) : (rgL a c n)[i]? = some (.int (a + (i : Int) * c)) := by simp [rgL, h]
theorem rgL_length (a c : Int) (n : Nat) : (rgL a c n).length = n := by simp [rgL]
noncomputable def rangeI (as : List AV) (Q : List AV → Stt → Prop) (σ : Stt) : Prop := match as with
  | [.int n] => (-(2 ^ 60) < n ∧ n < 2 ^ 60) ∧ Q (rgL 0 1 n.toNat) σ
  | [.int a, .int b] => (-(2 ^ 60) < a ∧ a < 2 ^ 60 ∧ -(2 ^ 60) < b ∧ b < 2 ^ 60) ∧ Q (rgL a 1 (b - a).toNat) σ
  | [.int a, .int b, .int c] => (-(2 ^ 60) < a ∧ a < 2 ^ 60 ∧ -(2 ^ 60) < b ∧ b < 2 ^ 60) ∧ ((c = -1 ∧ Q (rgL a (-1) (a - b).toNat) σ) ∨ (c = 2 ∧ Q (rgL a 2 ((b - a + 1) / 2).toNat) σ))
  | _ => False
theorem range_it {F : Fm} (ok : F.Ok) {σ σ₁ : Stt} {s s₁ : Shared} (g₁ : Gd F σ₁ s₁) (st₁ : Sp F σ s σ₁ s₁) {a b c : Int} {t u v : Tok} {tk : Nat} {n : Nat} (hsmall : Builtin.Range.small a b c = true) (hn : Builtin.Range.rangeSize a b c = (n : Int)) {Q : List AV → Stt → Prop} (k : Q (rgL a c n) σ₁) :
    wpAny F.M F.A (pyIter (.ref s₁.heap.objs.size)) (ItPost F Q σ s) (fun _ _ => False) { s₁ with heap := s₁.heap.push { cls := .type "range", data := .fields #[.int a t, .int b u, .int c v] }, toks := tk } := by
  refine wpAny_pyIter_range (IsRange.new s₁.heap a b c t u v) hsmall ?_
  rw [hn]
  have kk : ∀ b' o, s₁.heap.get? b' = some o → ((s₁.heap.push { cls := .type "range", data := .fields #[.int a t, .int b u, .int c v] }).push { cls := .type "range_iterator", data := .fields #[rawInt a, rawInt n, rawInt c] }).get? b' = some o := fun b' o e => Heap.get?_push_of_some _ (Heap.get?_push_of_some _ e)
  have hz := size_push1 s₁.heap { cls := .type "range", data := .fields #[.int a t, .int b u, .int c v] }
  have gz : s₁.heap.get? (s₁.heap.push { cls := .type "range", data := .fields #[.int a t, .int b u, .int c v] }).objs.size = none := by
    cases z : s₁.heap.get? (s₁.heap.push { cls := .type "range", data := .fields #[.int a t, .int b u, .int c v] }).objs.size with
    | none => rfl
    | some o => have := Heap.lt_size z; rw [hz] at this; exact absurd this (Nat.not_lt.mpr (Nat.le_succ _))
  have gs : s.heap.get? (s₁.heap.push { cls := .type "range", data := .fields #[.int a t, .int b u, .int c v] }).objs.size = none := by
    cases z : s.heap.get? (s₁.heap.push { cls := .type "range", data := .fields #[.int a t, .int b u, .int c v] }).objs.size with
    | none => rfl
    | some o => exact absurd gz (st₁.hs.alive _ (some_ne z))
  have W := (Walks.range (prog := F.g.prog) (w := F.g.w) ok.hh (s₁.heap.push { cls := .type "range", data := .fields #[.int a t, .int b u, .int c v] }).objs.size a c n)
  have W' := W
  rw [← rgL_length a c n] at W'
  refine ⟨_, _, _, _, _, rgL a c n, σ₁, rfl, W', ?_, fun b hb => ?_, ?_, fun b hb => ?_, fun i v hv hi => ?_, g₁.grow (tk := tk) kk, st₁.trans (Sp.grow (tk := tk) kk), fun b hb => ?_, k⟩
  · show IsRangeIter _ _ _ _ _
    rw [rgL_length]
    have z := Heap.get?_push_size (s₁.heap.push { cls := .type "range", data := .fields #[.int a t, .int b u, .int c v] }) (o := { cls := .type "range_iterator", data := .fields #[rawInt a, rawInt n, rawInt c] }) rfl
    simpa using z
  · rw [List.mem_singleton.mp hb]; exact ⟨fun z => exm_alive g₁ z gz, fun z => g₁.hg.al _ z gz⟩
  · intro i h hz b hb
    rw [List.mem_singleton.mp hb]
    exact some_ne hz
  · rw [List.mem_singleton.mp hb]; exact gs
  · obtain ⟨t, rfl⟩ := hv
    rw [rgL_length] at hi
    exact ⟨_, rgL_get hi, VR.i⟩
  · rw [List.mem_singleton.mp hb]
    exact none_of fun ao z => absurd gz (rd_alive g₁ z)
theorem tri_range {F : Fm} {e : Expr} {es : List Expr} {p q : Pos} {W : Pr (List AV)} (hx : F.env.kindOf (Str.ofString "range") = some .globalImplicit) (hK : nsIn F.g.K mainGlobals (Str.ofString "range") = some none) (he : TrL F (e :: es) p W)
    (hn : starEach (e :: es) F.env = (false, eval e F.env) :: starEach es F.env := by with_unfolding_all rfl) (hp : (backTo p (starEach es F.env)).any (·.1) = false := by with_unfolding_all rfl)
    (hc : eval (.Call (.Name (Str.ofString "range") q) (e :: es) [] p) F.env = (do callWith p (← eval (.Name (Str.ofString "range") q) F.env) [] (backTo p (starEach (e :: es) F.env)) (backToKw p (keywordEach [] F.env))) := by with_unfolding_all rfl) :
    TrI F (.Call (.Name (Str.ofString "range") q) (e :: es) [] p) (bnd W fun as => rangeI as) := by
  intro ok σ s Q hg hW
  refine Call_ (boot_load hx hK boot_range ok hg ?_) hc
  refine PySem.Pv.callWith_type1 (he.use ok hg hW fun vs s₁ as σ₁ r₁ h₁ g₁ st₁ => ?_) hn hp
  try dsimp only at h₁
  unfold rangeI at h₁
  split at h₁
  · rename_i n
    obtain ⟨hb, k⟩ := h₁
    cases r₁ with
    | cons a b =>
      cases b; obtain ⟨t, rfl⟩ := a
      refine call_range_1 (range_it ok g₁ st₁ (n := n.toNat) (small_one (by omega) (by omega) (by omega) (by omega)) ?_ k)
      rw [rangeSize_one]; split <;> omega
  · rename_i n m
    obtain ⟨hb, k⟩ := h₁
    cases r₁ with
    | cons a b => cases b with
      | cons b c =>
        cases c; obtain ⟨t, rfl⟩ := a; obtain ⟨u, rfl⟩ := b
        refine call_range_2 (range_it ok g₁ st₁ (n := (m - n).toNat) (small_one (by omega) (by omega) (by omega) (by omega)) ?_ k)
        rw [rangeSize_one]; split <;> omega
  · rename_i n m c
    obtain ⟨hb, k⟩ := h₁
    cases r₁ with
    | cons a b => cases b with
      | cons b c => cases c with
        | cons c d =>
          cases d; obtain ⟨t, rfl⟩ := a; obtain ⟨u, rfl⟩ := b; obtain ⟨w, rfl⟩ := c
          rcases k with ⟨rfl, k⟩ | ⟨rfl, k⟩
          · refine call_range_3 (by decide) (range_it ok g₁ st₁ (n := (n - m).toNat) ?_ ?_ k) (.inl (PyProof.noPylong_small (by decide)))
            · unfold Builtin.Range.small Builtin.Range.rangeSize
              simp only [Builtin.Range.rangeFitsLong, Bool.and_eq_true, Bool.or_eq_true, decide_eq_true_eq, beq_iff_eq, show ¬ (-1 : Int) > 0 by decide, if_false, show (- -1 : Int) = 1 by decide, Int.ediv_one]
              split <;> omega
            · unfold Builtin.Range.rangeSize
              simp only [show ¬ (-1 : Int) > 0 by decide, if_false, show (- -1 : Int) = 1 by decide, Int.ediv_one]
              split <;> omega
          · refine call_range_3 (by decide) (range_it ok g₁ st₁ (n := ((m - n + 1) / 2).toNat) ?_ ?_ k) (.inl (PyProof.noPylong_small (by decide)))
            · unfold Builtin.Range.small Builtin.Range.rangeSize
              simp only [Builtin.Range.rangeFitsLong, Bool.and_eq_true, Bool.or_eq_true, decide_eq_true_eq, beq_iff_eq, show (2 : Int) > 0 by decide, if_true]
              split <;> omega
            · unfold Builtin.Range.rangeSize
              simp only [show (2 : Int) > 0 by decide, if_true]
              split <;> omega
  · exact h₁.elim
noncomputable def revI (as : List AV) (Q : List AV → Stt → Prop) (σ : Stt) : Prop := match as with
  | [.ref l] => ∃ xs, σ.H.rd l = some (.list xs) ∧ Q xs.reverse (σ.frz l)
  | _ => False
theorem tri_rev {F : Fm} {e : Expr} {p q : Pos} {W : Pr (List AV)} (hx : F.env.kindOf (Str.ofString "reversed") = some .globalImplicit) (hK : nsIn F.g.K mainGlobals (Str.ofString "reversed") = some none) (he : TrL F [e] p W)
    (hn : starEach [e] F.env = (false, eval e F.env) :: starEach [] F.env := by with_unfolding_all rfl)
    (hc : eval (.Call (.Name (Str.ofString "reversed") q) [e] [] p) F.env = (do callWith p (← eval (.Name (Str.ofString "reversed") q) F.env) [] (backTo p (starEach [e] F.env)) (backToKw p (keywordEach [] F.env))) := by with_unfolding_all rfl) :
    TrI F (.Call (.Name (Str.ofString "reversed") q) [e] [] p) (bnd W fun as => revI as) := by
  intro ok σ s Q hg hW
  refine Call_ (boot_load hx hK boot_reversed ok hg ?_) hc
  refine PySem.Pv.callWith_type1 (he.use ok hg hW fun vs s₁ as σ₁ r₁ h₁ g₁ st₁ => ?_) hn rfl
  try dsimp only at h₁
  unfold revI at h₁
  split at h₁
  · rename_i l
    obtain ⟨xs, e, k⟩ := h₁
    cases r₁ with
    | cons a b =>
      cases b; cases a
      obtain ⟨vs, pl, q⟩ := (g₁.hg.hr _ _ e).1
      refine call_reversed_list pl.isList ?_
      have hne : l ≠ s₁.heap.objs.size := by
        obtain ⟨n, z⟩ := pl
        exact Nat.ne_of_lt (Heap.lt_size z)
      have kk : ∀ b o, s₁.heap.get? b = some o → (s₁.heap.push (revObj l ((vs.toArray.size : Int) - 1))).get? b = some o := fun b o e => Heap.get?_push_of_some _ e
      have gz := fresh_size s₁.heap
      have gs : s.heap.get? s₁.heap.objs.size = none := none_of fun o z => absurd gz (st₁.hs.alive _ (some_ne z))
      have hit : (s₁.heap.push (revObj l ((vs.toArray.size : Int) - 1))).IsRevIter s₁.heap.objs.size l ((vs.toArray.size : Int) - 1) := ⟨_, Heap.get?_push_size _ rfl, rfl, rfl⟩
      refine wpAny_pyIter_revIter hit ?_
      have W := Walks.listRev (prog := F.g.prog) (w := F.g.w) ok.hh s₁.heap.objs.size l hne vs.toArray
      have el : vs.toArray.size = xs.reverse.length := by rw [List.size_toArray, q.length, List.length_reverse]
      have W' := W
      rw [el] at W'
      refine ⟨_, _, _, _, _, xs.reverse, σ₁.frz l, rfl, W', ⟨Nat.zero_le _, by rw [← el]; simpa using hit, pl.isList.push _⟩, fun b hb => ?_, ?_, fun b hb => ?_, fun i v hv hi => ?_, (g₁.grow (tk := s₁.toks) kk).frz l, st₁.trans ((Sp.grow (tk := s₁.toks) kk).trans (Sp.frz l)), fun b hb => ?_, k⟩
      · rcases List.mem_cons.mp hb with rfl | hb
        · exact ⟨fun z => exm_alive g₁ z gz, fun z => g₁.hg.al _ z.2 gz⟩
        · rw [List.mem_singleton.mp hb]; exact ⟨(g₁.hg.hr _ _ e).2, fun z => z.1 rfl⟩
      · rintro i h ⟨_, ⟨o, z1, _⟩, ⟨o2, z2, _⟩⟩ b hb
        rcases List.mem_cons.mp hb with rfl | hb
        · exact some_ne z1
        · rw [List.mem_singleton.mp hb]; exact some_ne z2
      · rw [List.mem_singleton.mp hb]; exact gs
      · rw [List.length_reverse] at hi
        have e1 : xs.reverse[i]? = xs[xs.length - 1 - i]? := List.getElem?_reverse hi
        obtain ⟨w, z1, z2⟩ := q.get (xs.length - 1 - i) (xs[xs.length - 1 - i]'(by omega)) (List.getElem?_eq_getElem (by omega))
        have e2 : vs.toArray.size = xs.length := by rw [List.size_toArray, q.length]
        rw [← el, e2] at hv
        have : vs[xs.length - 1 - i]? = some v := by simpa using hv
        rw [this] at z1; cases z1
        exact ⟨_, e1.trans (List.getElem?_eq_getElem (by omega)), z2⟩
      · rw [List.mem_singleton.mp hb]
        exact none_of fun ao z => absurd gz (rd_alive g₁ z)
  · exact h₁.elim
noncomputable def forE (i j : Nat) (Wb : Pr AF) (Q : AF → Stt → Prop) (items : List AV) (σ : Stt) : Prop :=
  ∃ I : Nat → Stt → Prop, I 0 σ ∧ (∀ m a σ', items[m]? = some a → I m σ' → letsK [i, j] [.int m, a] (thenK (fun Q' => Wb Q') (turnF I Q m)) σ') ∧ ∀ σ', I items.length σ' → Q .next σ'
noncomputable def enumI (i j : Nat) (Wb : Pr AF) (as : List AV) (Q : AF → Stt → Prop) (σ : Stt) : Prop := match as with
  | [.ref l] => ∃ xs, σ.H.rd l = some (.list xs) ∧ forE i j Wb Q xs (σ.frz l)
  | _ => False
theorem tr_enum {F : Fm} {x y : Str} {i j k : Nat} {e : Expr} {b : List Stmt} {p₁ p₂ p₃ p q q' : Pos} {W : Pr (List AV)} {Wb : Pr AF} (hx : F.env.kindOf (Str.ofString "enumerate") = some .globalImplicit) (hK : nsIn F.g.K mainGlobals (Str.ofString "enumerate") = some none) (he : TrL F [e] p W) (hb : TrB F b Wb)
    (hi : Lk F.nm x i) (hk : Storable F.env x) (hj : Lk F.nm y j) (hkj : Storable F.env y)
    (hn : starEach [e] F.env = (false, eval e F.env) :: starEach [] F.env := by with_unfolding_all rfl)
    (hc : eval (.Call (.Name (Str.ofString "enumerate") q) [e] [] p) F.env = (do callWith p (← eval (.Name (Str.ofString "enumerate") q) F.env) [] (backTo p (starEach [e] F.env)) (backToKw p (keywordEach [] F.env))) := by with_unfolding_all rfl) :
    TrS F (.For (.Tuple [.Name x p₁, .Name y p₂] k p₃) (.Call (.Name (Str.ofString "enumerate") q) [e] [] p) b [] q') (bnd W fun as => enumI i j Wb as) := by
  intro ok σ s Q hg hW
  refine wpAny_For (Call_ (boot_load hx hK boot_enumerate ok hg ?_) hc) (fun _ => rfl)
  refine PySem.Pv.callWith_type1 (he.use ok hg hW fun vs s₁ as σ₁ r₁ h₁ g₁ st₁ => ?_) hn rfl
  try dsimp only at h₁
  unfold enumI at h₁
  split at h₁
  · rename_i l
    obtain ⟨xs, e, J, hJ0, hJt, hJe⟩ := h₁
    cases r₁ with
    | cons a b' =>
      cases b'; cases a
      obtain ⟨vs, pl, qv⟩ := (g₁.hg.hr _ _ e).1
      refine call_enumerate_list pl.isList fun h₂ hE hit hsz kk => ?_
      have hlt : l < s₁.heap.objs.size := by obtain ⟨n, z⟩ := pl; exact Heap.lt_size z
      have f0 := fresh_size s₁.heap
      have f1 : s₁.heap.get? (s₁.heap.objs.size + 1) = none := none_of fun o z => absurd (Heap.lt_size z) (Nat.not_lt.mpr (Nat.le_succ _))
      have W := WalksT.enumerate (prog := F.g.prog) (w := F.g.w) ok.hh (s₁.heap.objs.size + 1) s₁.heap.objs.size l (Nat.succ_ne_self _) (Nat.ne_of_lt (Nat.lt_succ_of_lt hlt)) (Nat.ne_of_lt hlt) vs.toArray
      have el : vs.toArray.size = xs.length := by rw [List.size_toArray, qv.length]
      obtain ⟨St, hSt⟩ : ∃ St : Nat → Heap → Prop, (fun (i : Nat) (h : Heap) => (∃ old, IsEnum h (s₁.heap.objs.size + 1) s₁.heap.objs.size i old) ∧ h.IsListIter s₁.heap.objs.size l i ∧ h.IsList l vs.toArray) = St := ⟨_, rfl⟩
      rw [hSt] at W
      have hst0 : St 0 h₂ := by rw [← hSt]; exact ⟨⟨_, hE⟩, hit, pl.isList.at fun o e => kk _ _ e⟩
      have hal : ∀ i h, St i h → ∀ b ∈ [s₁.heap.objs.size + 1, s₁.heap.objs.size, l], h.get? b ≠ none := by
        intro i h z b hb
        rw [← hSt] at z
        obtain ⟨⟨old, z1⟩, ⟨o2, z2, _⟩, ⟨o3, z3, _⟩⟩ := z
        rcases List.mem_cons.mp hb with rfl | hb
        · exact some_ne z1
        · rcases List.mem_cons.mp hb with rfl | hb
          · exact some_ne z2
          · rw [List.mem_singleton.mp hb]; exact some_ne z3
      generalize hfpE : [s₁.heap.objs.size + 1, s₁.heap.objs.size, l] = fp at W hal
      generalize hwrE : [s₁.heap.objs.size + 1, s₁.heap.objs.size] = wr at W
      have fresh : ∀ b ∈ wr, s₁.heap.get? b = none := by
        intro b hb
        rw [← hwrE] at hb
        rcases List.mem_cons.mp hb with rfl | hb
        · exact f1
        · rw [List.mem_singleton.mp hb]; exact f0
      have hwr : ∀ b ∈ wr, s.heap.get? b = none := fun b hb => none_of fun o z => absurd (fresh b hb) (st₁.hs.alive _ (some_ne z))
      have wrx : ∀ b ∈ wr, ¬ F.exm b := fun b hb z => exm_alive g₁ z (fresh b hb)
      have wrB : ∀ b ∈ wr, F.g.B.get? b = none := fun b hb => none_of fun o z => by have := hg.hg.bb _ _ z; rw [hwr b hb] at this; cases this
      have hfp : ∀ b ∈ fp, ¬ F.exm b ∧ ¬ (σ₁.frz l).H.own b := by
        intro b hb
        rw [← hfpE] at hb
        rcases List.mem_cons.mp hb with rfl | hb
        · exact ⟨fun z => exm_alive g₁ z f1, fun z => g₁.hg.al _ z.2 f1⟩
        · rcases List.mem_cons.mp hb with rfl | hb
          · exact ⟨fun z => exm_alive g₁ z f0, fun z => g₁.hg.al _ z.2 f0⟩
          · rw [List.mem_singleton.mp hb]; exact ⟨(g₁.hg.hr _ _ e).2, fun z => z.1 rfl⟩
      have hrd : ∀ b ∈ wr, (σ₁.frz l).H.rd b = none := fun b hb => none_of fun ao z => absurd (fresh b hb) (rd_alive g₁ z)
      have ht : Tgts F [.Name x p₁, .Name y p₂] [i, j] := .cons hi hk (.cons hj hkj .nil)
      refine W.self 0 { s₁ with heap := h₂ } _ _ hst0 ?_
      refine codeAny_forLoop_any (fun n s' => ∃ m σ', n + m = xs.length + 1 ∧ m ≤ xs.length ∧ St m s'.heap ∧ Gd F σ' s' ∧ Sp F σ s σ' s' ∧ (∀ b ∈ fp, ¬ σ'.H.own b) ∧ (∀ b ∈ wr, σ'.H.rd b = none) ∧ J m σ') ?_ (xs.length + 1)
        ⟨0, σ₁.frz l, rfl, Nat.zero_le _, hst0, (g₁.grow (tk := s₁.toks) kk).frz l, st₁.trans ((Sp.grow (tk := s₁.toks) kk).trans (Sp.frz l)), fun b h => (hfp b h).2, hrd, hJ0⟩
      rintro n s' ⟨m, σ', hn, hm, hst', g', st', how, hrd', hF⟩
      by_cases hlt' : m < xs.length
      · refine W.item m _ _ _ (by omega) hst' fun T vals h' tk hPv hTs hT hMid hk₁ => ?_
        obtain ⟨t, v, hv, rfl⟩ := hPv
        obtain ⟨v', z1, hva⟩ := qv.get m xs[m] (List.getElem?_eq_getElem hlt')
        have ev : vs[m]? = some v := by simpa using hv
        rw [ev] at z1; cases z1
        have gT := g'.turned ok (fun b h => how b (W.sub b h)) hrd' wrB wrx (tk := tk) hk₁
        have sT := st'.turned hwr (tk := tk) hk₁
        refine W.go _ _ _ m T { s' with heap := h', toks := tk } _ _ hMid fun h'' hst₁ hk₂ => ?_
        have gT2 := gT.turned ok (fun b h => how b (W.sub b h)) hrd' wrB wrx (tk := tk) hk₂
        have sT2 := sT.turned hwr (tk := tk) hk₂
        have hT2 : IsTup h'' T #[.int m t, v] := by obtain ⟨o, z1, z2⟩ := hT; exact ⟨o, hk₂ _ _ (W.apart _ _ _ hMid) z1, z2⟩
        replace hF := hJt m xs[m] σ' (List.getElem?_eq_getElem hlt') hF
        refine assign_Tuple_tuple ok.hh hT2 ht.length.1 ht.length.2 fun h₃ hx => ?_
        have kk₃ : ∀ b o, h''.get? b = some o → h₃.get? b = some o := extBut_size hx
        have g₃ := gT2.grow (tk := tk) kk₃
        have s₃ := sT2.trans (Sp.grow (tk := tk) kk₃)
        have hst₃ : St (m + 1) h₃ := W.frame _ _ _ hst₁ fun b hb o z => kk₃ b o z
        refine wpAny_mono (stores_ok ok ht (vs := [.int m t, v]) (as := [.int m, xs[m]]) (.cons VR.i (.cons hva .nil)) rfl g₃ (Q := fun _ s₄ => Gd F (σ'.lets [i, j] [.int m, xs[m]]) s₄ ∧ Sp F σ' { s' with heap := h₃, toks := tk } (σ'.lets [i, j] [.int m, xs[m]]) s₄) fun s₄ g₄ st₄ => ⟨g₄, st₄⟩) (fun _ s₄ ⟨g₄, st₄⟩ => ?_) fun _ _ x => x.elim
        refine wpAny_mono (hb ok _ _ _ g₄ hF) (fun f s₅ ⟨c, σ₅, r₅, h₅, g₅, st₅⟩ => ?_) fun _ _ x => x.elim
        have sAll := s₃.trans (st₄.trans st₅)
        have sB := st₄.trans st₅
        have alive1 : ∀ b ∈ fp, h₃.get? b ≠ none := hal _ _ hst₃
        have go : ∀ nx, (nx = AF.next ∨ nx = AF.cont) → c = nx → ∃ k, k < n ∧ ∃ m σ', k + m = xs.length + 1 ∧ m ≤ xs.length ∧ St m s₅.heap ∧ Gd F σ' s₅ ∧ Sp F σ s σ' s₅ ∧ (∀ b ∈ fp, ¬ σ'.H.own b) ∧ (∀ b ∈ wr, σ'.H.rd b = none) ∧ J m σ' := by
          intro nx hnx hc
          refine ⟨n - 1, by omega, m + 1, σ₅, by omega, hlt', ?_, g₅, sAll, fun b hbf e => ?_, fun b hbw => none_of fun z hz => ?_, ?_⟩
          · refine W.frame _ _ _ hst₃ fun b hbf o e => ?_
            exact sB.hs.keep b o e (hfp b hbf).1 (how b hbf)
          · rcases sB.hs.own b e with e | e
            · exact how b hbf e
            · exact alive1 b hbf e
          · rcases sB.hs.rd b (some_ne hz) with e | e
            · exact e (hrd' b hbw)
            · exact alive1 b (W.sub b hbw) e
          · rcases hnx with rfl | rfl <;> (subst hc; exact h₅)
        cases c with
        | next => cases r₅; exact go _ (.inl rfl) rfl
        | cont => cases r₅; exact go _ (.inr rfl) rfl
        | brk => cases r₅; exact Pst.of FR.n h₅ g₅ sAll
        | ret w => obtain ⟨u, rfl, hu⟩ := r₅; exact Pst.of (show FR (.ret u) (.ret w) from ⟨u, rfl, hu⟩) h₅ g₅ sAll
      · have hme : m = xs.length := by omega
        subst hme
        rw [← el] at hst'
        refine W.done _ _ _ hst' fun h' tk hk₁ => ?_
        exact wpAny_execs_nil (Pst.of FR.n (hJe _ hF) (g'.turned ok (fun b h => how b (W.sub b h)) hrd' wrB wrx (tk := tk) hk₁) (st'.turned hwr (tk := tk) hk₁))
  · exact h₁.elim
noncomputable def allL : Nat → (List Value → Prop) → Prop
  | 0, P => P []
  | n + 1, P => ∀ x, allL n fun l => P (x :: l)
theorem vrs_all : ∀ {avs : List AV} {vs : List Value}, VRs vs avs → ∀ {P : List Value → Prop}, allL avs.length P → P vs
  | _, _, .nil, _, k => k
  | _, _, .cons _ h, _, k => vrs_all h (k _)
noncomputable def noX : Addr → Prop := fun _ => False
noncomputable def CallPost (g : Gs) (H : Hp) (Q : AV → Hp → Prop) (s : Shared) (v : Value) (s' : Shared) : Prop :=
  ∃ av H' h' tk', s' = { s with heap := h', toks := tk' } ∧ VR v av ∧ Q av H' ∧ HGood g.B noX H' h' ∧ HStep noX H s.heap H' h'
noncomputable def CallR (g : Gs) (H : Hp) (Q : AV → Hp → Prop) (s : Shared) (r : Result) (s' : Shared) : Prop := match r with
  | .ok (.ret v) => CallPost g H Q s v s'
  | _ => False
structure callP (g : Gs) (D : Nat) (f : Addr) (args : List AV) (H : Hp) (Q : AV → Hp → Prop) : Prop where
  run : g.Ok → ∀ (A : Around) (s : Shared) (vals : List Value), A.handled = none → A.depth + D < recursionLimit → A.units + 8 * D + 128 < cLine → HGood g.B noX H s.heap → g.B.objs.size ≤ s.heap.objs.size → VRs vals args →
    codeAny (model g.prog g.w) A (.call (.ref f) ⟨vals, []⟩) (CallR g H Q s) s
theorem callP.wp {g : Gs} {D : Nat} {f : Addr} {args : List AV} {H : Hp} {Q : AV → Hp → Prop} (h : callP g D f args H Q) (ok : g.Ok) (A : Around) (s : Shared) (vals : List Value) (h1 : A.handled = none) (h2 : A.depth + D < recursionLimit) (h3 : A.units + 8 * D + 128 < cLine) (h4 : HGood g.B noX H s.heap) (h5 : g.B.objs.size ≤ s.heap.objs.size) (h6 : VRs vals args) :
    wpAny (model g.prog g.w) A (call (.ref f) vals) (CallPost g H Q s) (fun _ _ => False) s := by
  refine wpAny_call (codeAny_mono (h.run ok A s vals h1 h2 h3 h4 h5 h6) fun r s' z => ?_)
  unfold CallR at z
  split at z
  · exact z
  · exact z.elim
theorem HGood.weak {B : Heap} {exm : Addr → Prop} {H : Hp} {h : Heap} (x : HGood B exm H h) : HGood B noX H h := ⟨fun a ao e => ⟨(x.hr a ao e).1, id⟩, fun a e => ⟨id, (x.ow a e).2⟩, x.bb, x.al⟩
noncomputable def callK (g : Gs) (D : Nat) (f : AV) (as : List AV) (Q : AV → Stt → Prop) (σ : Stt) : Prop := ∃ a, f = .ref a ∧ callP g D a as σ.H fun v H' => Q v ⟨σ.loc, H'⟩
theorem back_ok {F : Fm} (ok : F.Ok) {σ : Stt} {s : Shared} (hg : Gd F σ s) {H' : Hp} {h' : Heap} {tk : Nat} (g' : HGood F.g.B noX H' h') (st : HStep noX σ.H s.heap H' h') : Gd F ⟨σ.loc, H'⟩ { s with heap := h', toks := tk } ∧ Sp F σ s ⟨σ.loc, H'⟩ { s with heap := h', toks := tk } := by
  have noown : ∀ a, F.exm a → ¬ σ.H.own a := fun a h z => (hg.hg.ow a z).1 h
  have kx : ∀ a o, F.exm a → s.heap.get? a = some o → h'.get? a = some o := fun a o h e => st.keep a o e id (noown a h)
  refine ⟨⟨⟨fun a ao e => ⟨(g'.hr a ao e).1, fun hx => ?_⟩, fun a e => ⟨fun hx => ?_, (g'.ow a e).2⟩, g'.bb, g'.al⟩, ?_, fun c hc => ?_⟩, ⟨⟨_, _, rfl⟩, ⟨fun b o e n1 n2 => st.keep b o e id n2, st.alive, st.own, st.rd⟩⟩⟩
  · rcases st.rd a (some_ne e) with z | z
    · cases q : σ.H.rd a with
      | none => exact z q
      | some ao' => exact (hg.hg.hr _ _ q).2 hx
    · exact exm_alive hg hx z
  · rcases st.own a e with z | z
    · exact noown a hx z
    · exact exm_alive hg hx z
  · obtain ⟨m, hm, hl⟩ := hg.ns
    refine ⟨m, hm.at' fun o e => kx _ _ (.inl rfl) e, fun i y av h1 h2 => ?_⟩
    obtain ⟨v, q1, q2⟩ := hl i y av h1 h2
    refine ⟨v, q1, ?_⟩
    rcases q2 with q2 | ⟨b1, c, b2, ⟨o, b3, b4⟩⟩
    · exact .inl q2
    · exact .inr ⟨b1, c, b2, o, kx _ _ (.inr ⟨y, mem_of_lookup b2⟩) b3, b4⟩
  · obtain ⟨v, o, q1, q2⟩ := hg.cells c hc
    exact ⟨v, o, kx _ _ (.inr ⟨c.1, hc⟩) q1, q2⟩
noncomputable def fnK (g : Gs) (f : AV) (σ : Stt) (P : Prop) : Prop := (∃ a, f = .ref a ∧ ∀ h exm, HGood g.B exm σ.H h → g.Ok → ∃ o fd, h.get? a = some o ∧ o.data = .func fd ∧ ¬ σ.H.own a) ∧ P
theorem tr_call {g : Gs} {D : Nat} {A : Around} {env : Env} {nm : List Str} {fe e : Expr} {es : List Expr} {p : Pos} {Wf : Pr AV} {Wa : Pr (List AV)} (hf : TrE ⟨g, D, A, env, nm⟩ fe Wf) (ha : TrL ⟨g, D, A, env, nm⟩ (e :: es) p Wa)
    (hn : starEach (e :: es) env = (false, eval e env) :: starEach es env := by with_unfolding_all rfl) (hp : (backTo p (starEach es env)).any (·.1) = false := by with_unfolding_all rfl)
    (hc : eval (.Call fe (e :: es) [] p) env = (do callWith p (← eval fe env) [] (backTo p (starEach (e :: es) env)) (backToKw p (keywordEach [] env))) := by with_unfolding_all rfl) :
    TrE ⟨g, D, A, env, nm⟩ (.Call fe (e :: es) [] p) (bnd Wf fun f Q σ => fnK g f σ (Wa (fun as => callK g D f as Q) σ)) := by
  intro ok σ s Q hg hW
  refine Call_ (hf.use ok hg hW fun v s₁ a σ₁ r₁ h₁ g₁ st₁ => ?_) hc
  obtain ⟨⟨f, rfl, hfn⟩, h₁⟩ := h₁
  cases r₁
  obtain ⟨o, fd, e1, e2, e3⟩ := hfn _ _ g₁.hg ok.g
  have hx : ¬ Fm.exm ⟨g, D, A, env, nm⟩ f := by
    rintro (z | ⟨y, hy⟩)
    · obtain ⟨m, ⟨o', _, _, e', d, _⟩, _⟩ := g₁.ns
      rw [← z, e1] at e'; cases e'; rw [e2] at d; cases d
    · obtain ⟨v, o', e', d⟩ := g₁.cells _ hy
      rw [show s₁.heap.get? f = _ from e1] at e'; cases e'; rw [e2] at d; cases d
  refine callWith_function (o := o) (fd := fd) ?_
  rw [hn]
  refine evalArgs_plain ?_
  have := ha.use ok g₁ h₁ (Q' := fun vs s₂ => (s₂.heap.get? f = some o ∧ o.data = .func fd) ∧ wpAny (model g.prog g.w) A (call (.ref f) ([] ++ vs)) (Pst ⟨g, D, A, env, nm⟩ VR Q σ s) (fun _ _ => False) s₂) fun vs s₂ as σ₂ r₂ h₂ g₂ st₂ => ?_
  · rw [hn] at this; exact this
  · obtain ⟨f', hf', hcp⟩ := h₂
    cases hf'
    refine ⟨⟨st₂.hs.keep f o e1 hx e3, e2⟩, ?_⟩
    have hsz : g.B.objs.size ≤ s₂.heap.objs.size := by
      obtain ⟨m, hm, _⟩ := g₂.ns
      exact Nat.le_of_lt (Nat.lt_of_le_of_lt ok.Lb hm.lt)
    refine wpAny_mono (hcp.wp ok.g A s₂ vs ok.hh ok.room ok.units g₂.hg.weak hsz r₂) (fun v s₃ h₃ => ?_) fun _ _ x => x
    obtain ⟨av, H', h', tk', rfl, r₃, h₃, g₃, st₃⟩ := h₃
    obtain ⟨g₄, st₄⟩ := back_ok ok g₂ g₃ st₃ (tk := tk')
    exact Pst.of r₃ h₃ g₄ (st₁.trans (st₂.trans st₄))
noncomputable def Hp.Sub (H' H : Hp) : Prop := (∀ a ao, H'.rd a = some ao → H.rd a = some ao) ∧ (∀ a, H'.own a → H.own a) ∧ ∀ a, H.own a → H'.own a ∨ H'.rd a = none
theorem Hp.Sub.refl {H : Hp} : H.Sub H := ⟨fun _ _ e => e, fun _ e => e, fun _ e => .inl e⟩
noncomputable def Hp.back (H H₀ : Hp) : Hp := ⟨H.rd, fun a => (H.own a ∧ H₀.rd a = none) ∨ H₀.own a⟩
noncomputable def retK (H₀ : Hp) (Q : AV → Hp → Prop) (f : AF) (σ : Stt) : Prop := match f with
  | .ret v => Q v (σ.H.back H₀)
  | .next => Q .none (σ.H.back H₀)
  | _ => False
theorem retK_out {H₀ : Hp} {Q : AV → Hp → Prop} {f : AF} {σ : Stt} (h : retK H₀ Q f σ) : ∃ v, (f = .ret v ∨ (f = .next ∧ v = .none)) ∧ Q v (σ.H.back H₀) := by
  try dsimp only at h
  unfold retK at h
  split at h
  · exact ⟨_, .inl rfl, h⟩
  · exact ⟨_, .inr ⟨rfl, rfl⟩, h⟩
  · exact h.elim
theorem bindL_off {k : Str → Option NameKind} {x : Str} : ∀ {bs : List (Str × Value)} {m : Str → Option Value}, x ∉ bs.map (·.1) → bindL k bs m x = m x
  | [], _, _ => rfl
  | (n, v) :: r, m, h => by
    unfold bindL
    rw [bindL_off fun z => h (.tail _ z)]
    have hn : x ≠ n := fun z => h (z ▸ .head _)
    split
    · simp [hn]
    · rfl
theorem bindC_off {k : Str → Option NameKind} {x : Str} : ∀ {bs : List (Str × Value)} {m : Str → Option Value}, x ∉ bs.map (·.1) → bindC k bs m x = m x
  | [], _, _ => rfl
  | (n, v) :: r, m, h => by
    unfold bindC
    rw [bindC_off fun z => h (.tail _ z)]
    have hn : x ≠ n := fun z => h (z ▸ .head _)
    split
    · rfl
    · simp [hn]
theorem bindL_get {k : Str → Option NameKind} {x : Str} {v : Value} (hk : k x = some .local) : ∀ {bs : List (Str × Value)} {m : Str → Option Value}, (bs.map (·.1)).Nodup → (x, v) ∈ bs → bindL k bs m x = some v
  | (n, w) :: r, m, hn, h => by
    obtain ⟨n1, n2⟩ := List.nodup_cons.mp hn
    unfold bindL
    rcases List.mem_cons.mp h with e | h
    · cases e
      rw [bindL_off n1, if_pos hk]; simp
    · exact bindL_get hk n2 h
theorem bindC_get {k : Str → Option NameKind} {x : Str} {v : Value} (hk : k x ≠ some .local) : ∀ {bs : List (Str × Value)} {m : Str → Option Value}, (bs.map (·.1)).Nodup → (x, v) ∈ bs → bindC k bs m x = some v
  | (n, w) :: r, m, hn, h => by
    obtain ⟨n1, n2⟩ := List.nodup_cons.mp hn
    unfold bindC
    rcases List.mem_cons.mp h with e | h
    · cases e
      rw [bindC_off n1, if_neg hk]; simp
    · exact bindC_get hk n2 h
theorem zip_mem {xs : List Str} {vs : List Value} : ∀ (i : Nat) (x : Str) (v : Value), xs[i]? = some x → vs[i]? = some v → (x, v) ∈ xs.zip vs := by
  intro i x v h1 h2
  refine List.mem_of_getElem? (i := i) ?_
  rw [List.getElem?_zip_eq_some]
  exact ⟨h1, h2⟩
theorem init_loc {args : List AV} {k : Nat} {i : Nat} {av : AV} (h : (args.map some ++ List.replicate k (none : Option AV))[i]? = some (some av)) : args[i]? = some av := by
  by_cases hi : i < args.length
  · rw [List.getElem?_append_left (by simpa using hi)] at h
    simpa using h
  · rw [List.getElem?_append_right (by simpa using hi), List.getElem?_replicate] at h
    split at h <;> cases h
theorem callP_def {g : Gs} {D : Nat} {f : Addr} {args : List AV} {H : Hp} {Q : AV → Hp → Prop} {fd : FuncData} {oc : Value} {od : Option Addr} {osl : Array (Option Value)} {body : List Stmt} (hK : g.K.lookup f = some ⟨oc, od, .func fd, osl⟩) (hcd : codeIn g.K fd.code fd.qualname = true)
    (hbody : fd.body = .stmts body) (hclo : fd.closure = []) (hgl : fd.globals = mainGlobals) (hbi : fd.builtins = builtinsNs) (ps : List Str) (more : List Str) (hnd : (ps ++ more).Nodup) (hl : ps.length = args.length)
    (hkind : ∀ n, ∀ x ∈ ps, fd.scope.names.lookup x = some .local ∨ (fd.scope.names.lookup x = some .cell ∧ ((cellsFrom n fd.scope.names []).lookup x).isSome = true))
    (hcn : ((cellsFrom 0 fd.scope.names []).map (·.1)).Nodup)
    (hbind : ∀ vs, VRs vs args → bindArgs fd ⟨vs, []⟩ = pure (ps.zip vs)) {Wb : Pr AF}
    (hW : ∀ A L, TrB ⟨g, D, A, callEnvC fd L f, ps ++ more⟩ body Wb)
    (hVC : Wb (retK H Q) ⟨args.map some ++ List.replicate more.length none, H⟩)
    (hco : fd.scope.isCoroutine = false := by with_unfolding_all rfl) (hgen : fd.scope.isGenerator = false := by with_unfolding_all rfl) (hk : fd.scope.kind = .function := by with_unfolding_all rfl) : callP g (D + 1) f args H Q := by
  refine ⟨fun ok A s vals hh hroom hun hg hsz hv => ?_⟩
  obtain ⟨pp, loose, mean, mg, mb, T⟩ := ok.T
  have hX : ∀ a o, g.K.lookup a = some o → s.heap.get? a = some o := fun a o e => hg.bb _ _ (ok.X _ _ e)
  have hps : (ps.zip vals).map (·.1) = ps := by
    rw [List.map_fst_zip]
    rw [hl, hv.length]; exact Nat.le_refl _
  have hpsn : ps.Nodup := (List.nodup_append.mp hnd).1
  refine (codeAny_call_cells (R := CallR g H Q s) (o := ⟨oc, od, .func fd, osl⟩) (by (first | lia | omega)) (hX _ _ hK) rfl (T.nolimit.keeps hg.bb) (codeRec_of (fun a o e => hX a o e) hcd) hbody (hbind vals hv) hclo (fun x hx => ?_) (fun s₁ x => ?_) hco hgen hk)
  · refine hkind _ _ ?_
    have := List.mem_map_of_mem (f := (·.1)) hx
    rwa [hps] at this
  · generalize hL : s.heap.objs.size = L at x
    have hcells : ∀ n c, (n, c) ∈ (callEnvC fd L f).cells → (callEnvC fd L f).cells.lookup n = some c := fun n c hm => lookup_of_mem_nodup (cellsFrom_names fd.scope.names 0 (L + 1) [] [] rfl ▸ hcn) hm
    obtain ⟨h₁, tk₁, rfl, kk⟩ := x.done
    have freshx : ∀ a, Fm.exm ⟨g, D, A.deeper (callEnvC fd L f), callEnvC fd L f, ps ++ more⟩ a → L ≤ a := by
      rintro a (rfl | ⟨y, hy⟩)
      · exact Nat.le_refl _
      · exact Nat.le_of_lt (x.above _ _ hy)
    have nox : ∀ a, s.heap.get? a ≠ none → ¬ Fm.exm ⟨g, D, A.deeper (callEnvC fd L f), callEnvC fd L f, ps ++ more⟩ a := by
      intro a ha hx
      cases q : s.heap.get? a with
      | none => exact ha q
      | some o => exact absurd (Heap.lt_size q) (Nat.not_lt.mpr (hL ▸ freshx a hx))
    have fok : Fm.Ok ⟨g, D, A.deeper (callEnvC fd L f), callEnvC fd L f, ps ++ more⟩ := by
      refine ⟨ok, hh, ?_, ?_, hk, hgl, hbi, hL ▸ hsz, fun c hc => ⟨none_of fun o q => absurd (Heap.lt_size q) (Nat.not_lt.mpr (Nat.le_trans hsz (hL ▸ Nat.le_of_lt (x.above c.1 c.2 hc)))), Nat.ne_of_gt (x.above c.1 c.2 hc)⟩, x.apart, hnd⟩
      · show A.depth + 1 + D < recursionLimit; (first | lia | omega)
      · show A.units + 3 + 8 * D + 128 < cLine; (first | lia | omega)
    have g₀ : Gd ⟨g, D, A.deeper (callEnvC fd L f), callEnvC fd L f, ps ++ more⟩ ⟨args.map some ++ List.replicate more.length none, H⟩ { s with heap := h₁, toks := tk₁ } := by
      refine ⟨⟨fun a ao e => ⟨(hg.hr a ao e).1.keeps (kk a), nox a (hg.hr a ao e).1.alive⟩, fun a e => ⟨nox a (hg.al a e), (hg.ow a e).2⟩, fun b o e => kk b o (hg.bb b o e), fun a e => alive_of kk a (hg.al a e)⟩, ⟨_, x.toInCall.ns, fun i y av h1 h2 => ?_⟩, fun c hc => ⟨_, x.cell c.1 c.2 (hcells _ _ hc)⟩⟩
      have h3 := init_loc h2
      obtain ⟨v, v1, v2⟩ := hv.get i av h3
      have hi : i < ps.length := by rw [hl]; exact (List.getElem?_eq_some_iff.mp h3).1
      have h4 : ps[i]? = some y := by
        have : (ps ++ more)[i]? = some y := h1
        rwa [List.getElem?_append_left hi] at this
      have hm := zip_mem i y v h4 v1
      refine ⟨v, v2, ?_⟩
      rcases hkind (L + 1) y (List.mem_of_getElem? h4) with hy | ⟨hy, hc⟩
      · exact .inl ⟨hy, bindL_get hy (show (List.map (fun x => x.1) (ps.zip vals)).Nodup by rw [hps]; exact hpsn) hm⟩
      · obtain ⟨c, hc⟩ := Option.isSome_iff_exists.mp hc
        have hnl : (callEnvC fd L f).kindOf y ≠ some .local := by rw [show (callEnvC fd L f).kindOf y = _ from hy]; decide
        refine .inr ⟨.inl hy, c, hc, ?_⟩
        have := x.cell y c hc
        rwa [bindC_get hnl (show (List.map (fun x => x.1) (ps.zip vals)).Nodup by rw [hps]; exact hpsn) hm] at this
    refine wpAny_mono (hW (A := A.deeper (callEnvC fd L f)) (L := L) fok _ _ _ g₀ hVC) (fun fl s' h => ?_) fun _ _ x => x.elim
    obtain ⟨a, σ', r, hret, g', ⟨⟨h', tk', rfl⟩, st⟩⟩ := h
    obtain ⟨v, hv', hQ⟩ := retK_out hret
    have alk : ∀ a, s.heap.get? a ≠ none → h'.get? a ≠ none := fun b e => st.alive b (alive_of kk b e)
    refine ⟨v, σ'.H.back H, h', tk', rfl, ?_, hQ, ⟨fun a ao e => ⟨(g'.hg.hr a ao e).1, id⟩, fun a e => ⟨id, e.elim (fun e => (g'.hg.ow a e.1).2) fun e => (hg.ow a e).2⟩, g'.hg.bb, fun a e => e.elim (fun e => g'.hg.al a e.1) fun e => alk a (hg.al a e)⟩, ⟨fun b o e _ n2 => st.keep b o (kk b o e) (nox b (some_ne e)) n2, alk, fun a e => ?_, fun a e => ?_⟩⟩
    · rcases hv' with rfl | ⟨rfl, rfl⟩
      · obtain ⟨u, rfl, hu⟩ := r; exact hu
      · cases r; exact rfl
    · rcases e with ⟨e, _⟩ | e
      · rcases st.own a e with z | z
        · exact .inl z
        · exact .inr (none_of fun o y => by have := kk a o y; rw [show h₁.get? a = none from z] at this; cases this)
      · exact .inl e
    · rcases st.rd a e with z | z
      · exact .inl z
      · exact .inr (none_of fun o y => by have := kk a o y; rw [show h₁.get? a = none from z] at this; cases this)
theorem fnK_def {g : Gs} {f : Addr} {fd : FuncData} {oc : Value} {od : Option Addr} {osl : Array (Option Value)} (hK : g.K.lookup f = some ⟨oc, od, .func fd, osl⟩) {σ : Stt} {P : Prop} (h : P) : fnK g (.ref f) σ P := by
  refine ⟨⟨f, rfl, fun h exm hg ok => ⟨_, fd, hg.bb _ _ (ok.X _ _ hK), rfl, fun z => ?_⟩⟩, h⟩
  have := (hg.ow f z).2
  rw [ok.X _ _ hK] at this; cases this
inductive SetAt : List (Option AV) → Nat → AV → List (Option AV) → Prop
  | z {x l v} : SetAt (x :: l) 0 v (some v :: l)
  | s {x l i v l'} : SetAt l i v l' → SetAt (x :: l) (i + 1) v (x :: l')
theorem st0 { y : Option AV} {l : List (Option AV)} {v : AV} : SetAt (y :: l) (0) v (some v :: l) := .z
theorem st1 {x0 y : Option AV} {l : List (Option AV)} {v : AV} : SetAt (x0 :: y :: l) (0 + 1) v (x0 :: some v :: l) := .s st0
theorem st2 {x0 x1 y : Option AV} {l : List (Option AV)} {v : AV} : SetAt (x0 :: x1 :: y :: l) (0 + 1 + 1) v (x0 :: x1 :: some v :: l) := .s st1
theorem st3 {x0 x1 x2 y : Option AV} {l : List (Option AV)} {v : AV} : SetAt (x0 :: x1 :: x2 :: y :: l) (0 + 1 + 1 + 1) v (x0 :: x1 :: x2 :: some v :: l) := .s st2
theorem st4 {x0 x1 x2 x3 y : Option AV} {l : List (Option AV)} {v : AV} : SetAt (x0 :: x1 :: x2 :: x3 :: y :: l) (0 + 1 + 1 + 1 + 1) v (x0 :: x1 :: x2 :: x3 :: some v :: l) := .s st3
theorem st5 {x0 x1 x2 x3 x4 y : Option AV} {l : List (Option AV)} {v : AV} : SetAt (x0 :: x1 :: x2 :: x3 :: x4 :: y :: l) (0 + 1 + 1 + 1 + 1 + 1) v (x0 :: x1 :: x2 :: x3 :: x4 :: some v :: l) := .s st4
theorem st6 {x0 x1 x2 x3 x4 x5 y : Option AV} {l : List (Option AV)} {v : AV} : SetAt (x0 :: x1 :: x2 :: x3 :: x4 :: x5 :: y :: l) (0 + 1 + 1 + 1 + 1 + 1 + 1) v (x0 :: x1 :: x2 :: x3 :: x4 :: x5 :: some v :: l) := .s st5
theorem st7 {x0 x1 x2 x3 x4 x5 x6 y : Option AV} {l : List (Option AV)} {v : AV} : SetAt (x0 :: x1 :: x2 :: x3 :: x4 :: x5 :: x6 :: y :: l) (0 + 1 + 1 + 1 + 1 + 1 + 1 + 1) v (x0 :: x1 :: x2 :: x3 :: x4 :: x5 :: x6 :: some v :: l) := .s st6
theorem st8 {x0 x1 x2 x3 x4 x5 x6 x7 y : Option AV} {l : List (Option AV)} {v : AV} : SetAt (x0 :: x1 :: x2 :: x3 :: x4 :: x5 :: x6 :: x7 :: y :: l) (0 + 1 + 1 + 1 + 1 + 1 + 1 + 1 + 1) v (x0 :: x1 :: x2 :: x3 :: x4 :: x5 :: x6 :: x7 :: some v :: l) := .s st7
theorem st9 {x0 x1 x2 x3 x4 x5 x6 x7 x8 y : Option AV} {l : List (Option AV)} {v : AV} : SetAt (x0 :: x1 :: x2 :: x3 :: x4 :: x5 :: x6 :: x7 :: x8 :: y :: l) (0 + 1 + 1 + 1 + 1 + 1 + 1 + 1 + 1 + 1) v (x0 :: x1 :: x2 :: x3 :: x4 :: x5 :: x6 :: x7 :: x8 :: some v :: l) := .s st8
theorem st10 {x0 x1 x2 x3 x4 x5 x6 x7 x8 x9 y : Option AV} {l : List (Option AV)} {v : AV} : SetAt (x0 :: x1 :: x2 :: x3 :: x4 :: x5 :: x6 :: x7 :: x8 :: x9 :: y :: l) (0 + 1 + 1 + 1 + 1 + 1 + 1 + 1 + 1 + 1 + 1) v (x0 :: x1 :: x2 :: x3 :: x4 :: x5 :: x6 :: x7 :: x8 :: x9 :: some v :: l) := .s st9
theorem st11 {x0 x1 x2 x3 x4 x5 x6 x7 x8 x9 x10 y : Option AV} {l : List (Option AV)} {v : AV} : SetAt (x0 :: x1 :: x2 :: x3 :: x4 :: x5 :: x6 :: x7 :: x8 :: x9 :: x10 :: y :: l) (0 + 1 + 1 + 1 + 1 + 1 + 1 + 1 + 1 + 1 + 1 + 1) v (x0 :: x1 :: x2 :: x3 :: x4 :: x5 :: x6 :: x7 :: x8 :: x9 :: x10 :: some v :: l) := .s st10
theorem st12 {x0 x1 x2 x3 x4 x5 x6 x7 x8 x9 x10 x11 y : Option AV} {l : List (Option AV)} {v : AV} : SetAt (x0 :: x1 :: x2 :: x3 :: x4 :: x5 :: x6 :: x7 :: x8 :: x9 :: x10 :: x11 :: y :: l) (0 + 1 + 1 + 1 + 1 + 1 + 1 + 1 + 1 + 1 + 1 + 1 + 1) v (x0 :: x1 :: x2 :: x3 :: x4 :: x5 :: x6 :: x7 :: x8 :: x9 :: x10 :: x11 :: some v :: l) := .s st11
theorem st13 {x0 x1 x2 x3 x4 x5 x6 x7 x8 x9 x10 x11 x12 y : Option AV} {l : List (Option AV)} {v : AV} : SetAt (x0 :: x1 :: x2 :: x3 :: x4 :: x5 :: x6 :: x7 :: x8 :: x9 :: x10 :: x11 :: x12 :: y :: l) (0 + 1 + 1 + 1 + 1 + 1 + 1 + 1 + 1 + 1 + 1 + 1 + 1 + 1) v (x0 :: x1 :: x2 :: x3 :: x4 :: x5 :: x6 :: x7 :: x8 :: x9 :: x10 :: x11 :: x12 :: some v :: l) := .s st12
theorem st14 {x0 x1 x2 x3 x4 x5 x6 x7 x8 x9 x10 x11 x12 x13 y : Option AV} {l : List (Option AV)} {v : AV} : SetAt (x0 :: x1 :: x2 :: x3 :: x4 :: x5 :: x6 :: x7 :: x8 :: x9 :: x10 :: x11 :: x12 :: x13 :: y :: l) (0 + 1 + 1 + 1 + 1 + 1 + 1 + 1 + 1 + 1 + 1 + 1 + 1 + 1 + 1) v (x0 :: x1 :: x2 :: x3 :: x4 :: x5 :: x6 :: x7 :: x8 :: x9 :: x10 :: x11 :: x12 :: x13 :: some v :: l) := .s st13
theorem st15 {x0 x1 x2 x3 x4 x5 x6 x7 x8 x9 x10 x11 x12 x13 x14 y : Option AV} {l : List (Option AV)} {v : AV} : SetAt (x0 :: x1 :: x2 :: x3 :: x4 :: x5 :: x6 :: x7 :: x8 :: x9 :: x10 :: x11 :: x12 :: x13 :: x14 :: y :: l) (0 + 1 + 1 + 1 + 1 + 1 + 1 + 1 + 1 + 1 + 1 + 1 + 1 + 1 + 1 + 1) v (x0 :: x1 :: x2 :: x3 :: x4 :: x5 :: x6 :: x7 :: x8 :: x9 :: x10 :: x11 :: x12 :: x13 :: x14 :: some v :: l) := .s st14
theorem st16 {x0 x1 x2 x3 x4 x5 x6 x7 x8 x9 x10 x11 x12 x13 x14 x15 y : Option AV} {l : List (Option AV)} {v : AV} : SetAt (x0 :: x1 :: x2 :: x3 :: x4 :: x5 :: x6 :: x7 :: x8 :: x9 :: x10 :: x11 :: x12 :: x13 :: x14 :: x15 :: y :: l) (0 + 1 + 1 + 1 + 1 + 1 + 1 + 1 + 1 + 1 + 1 + 1 + 1 + 1 + 1 + 1 + 1) v (x0 :: x1 :: x2 :: x3 :: x4 :: x5 :: x6 :: x7 :: x8 :: x9 :: x10 :: x11 :: x12 :: x13 :: x14 :: x15 :: some v :: l) := .s st15
theorem st17 {x0 x1 x2 x3 x4 x5 x6 x7 x8 x9 x10 x11 x12 x13 x14 x15 x16 y : Option AV} {l : List (Option AV)} {v : AV} : SetAt (x0 :: x1 :: x2 :: x3 :: x4 :: x5 :: x6 :: x7 :: x8 :: x9 :: x10 :: x11 :: x12 :: x13 :: x14 :: x15 :: x16 :: y :: l) (0 + 1 + 1 + 1 + 1 + 1 + 1 + 1 + 1 + 1 + 1 + 1 + 1 + 1 + 1 + 1 + 1 + 1) v (x0 :: x1 :: x2 :: x3 :: x4 :: x5 :: x6 :: x7 :: x8 :: x9 :: x10 :: x11 :: x12 :: x13 :: x14 :: x15 :: x16 :: some v :: l) := .s st16
theorem st18 {x0 x1 x2 x3 x4 x5 x6 x7 x8 x9 x10 x11 x12 x13 x14 x15 x16 x17 y : Option AV} {l : List (Option AV)} {v : AV} : SetAt (x0 :: x1 :: x2 :: x3 :: x4 :: x5 :: x6 :: x7 :: x8 :: x9 :: x10 :: x11 :: x12 :: x13 :: x14 :: x15 :: x16 :: x17 :: y :: l) (0 + 1 + 1 + 1 + 1 + 1 + 1 + 1 + 1 + 1 + 1 + 1 + 1 + 1 + 1 + 1 + 1 + 1 + 1) v (x0 :: x1 :: x2 :: x3 :: x4 :: x5 :: x6 :: x7 :: x8 :: x9 :: x10 :: x11 :: x12 :: x13 :: x14 :: x15 :: x16 :: x17 :: some v :: l) := .s st17
theorem st19 {x0 x1 x2 x3 x4 x5 x6 x7 x8 x9 x10 x11 x12 x13 x14 x15 x16 x17 x18 y : Option AV} {l : List (Option AV)} {v : AV} : SetAt (x0 :: x1 :: x2 :: x3 :: x4 :: x5 :: x6 :: x7 :: x8 :: x9 :: x10 :: x11 :: x12 :: x13 :: x14 :: x15 :: x16 :: x17 :: x18 :: y :: l) (0 + 1 + 1 + 1 + 1 + 1 + 1 + 1 + 1 + 1 + 1 + 1 + 1 + 1 + 1 + 1 + 1 + 1 + 1 + 1) v (x0 :: x1 :: x2 :: x3 :: x4 :: x5 :: x6 :: x7 :: x8 :: x9 :: x10 :: x11 :: x12 :: x13 :: x14 :: x15 :: x16 :: x17 :: x18 :: some v :: l) := .s st18
theorem SetAt.eq {l l' : List (Option AV)} {i : Nat} {v : AV} (h : SetAt l i v l') : l.set i (some v) = l' := by
  induction h with
  | z => rfl
  | s _ ih => rw [List.set_cons_succ, ih]
inductive GetAt : List (Option AV) → Nat → AV → Prop
  | z {l v} : GetAt (some v :: l) 0 v
  | s {x l i v} : GetAt l i v → GetAt (x :: l) (i + 1) v
theorem GetAt.eq {l : List (Option AV)} {i : Nat} {v : AV} (h : GetAt l i v) : l[i]? = some (some v) := by
  induction h with
  | z => rfl
  | s _ ih => simpa using ih
def GenL (F : (AF → Stt → Prop) → Prop) (L : AF → Stt → Prop) : Prop := ∀ T : AF → Stt → Prop, (∀ f σ, L f σ → T f σ) → F T
theorem gen_in {F : (AF → Stt → Prop) → Prop} {L : AF → Stt → Prop} (h : ∀ T : AF → Stt → Prop, (∀ f σ, L f σ → T f σ) → F T) : GenL F L := h
theorem gen_use {T L : AF → Stt → Prop} {f : AF} {σ : Stt} (h : ∀ f σ, L f σ → T f σ) (k : L f σ) : T f σ := h f σ k
theorem GenL.go {F : (AF → Stt → Prop) → Prop} {L : AF → Stt → Prop} (h : GenL F L) : F L := h L fun _ _ x => x
section
variable {l l' : List (Option AV)} {H : Hp} {Q : AV → Stt → Prop} {QF : AF → Stt → Prop} {QB : Bool → Stt → Prop} {P P' : Prop} {x y : Int} {i : Nat} {v : AV} {g : Gs} {D : Nat}
theorem kv0 : varK (0) Q ⟨some v :: l, H⟩ = Q v ⟨some v :: l, H⟩ := rfl
theorem kv1 {x0 : Option AV} : varK (0 + 1) Q ⟨x0 :: some v :: l, H⟩ = Q v ⟨x0 :: some v :: l, H⟩ := rfl
theorem kv2 {x0 x1 : Option AV} : varK (0 + 1 + 1) Q ⟨x0 :: x1 :: some v :: l, H⟩ = Q v ⟨x0 :: x1 :: some v :: l, H⟩ := rfl
theorem kv3 {x0 x1 x2 : Option AV} : varK (0 + 1 + 1 + 1) Q ⟨x0 :: x1 :: x2 :: some v :: l, H⟩ = Q v ⟨x0 :: x1 :: x2 :: some v :: l, H⟩ := rfl
theorem kv4 {x0 x1 x2 x3 : Option AV} : varK (0 + 1 + 1 + 1 + 1) Q ⟨x0 :: x1 :: x2 :: x3 :: some v :: l, H⟩ = Q v ⟨x0 :: x1 :: x2 :: x3 :: some v :: l, H⟩ := rfl
theorem kv5 {x0 x1 x2 x3 x4 : Option AV} : varK (0 + 1 + 1 + 1 + 1 + 1) Q ⟨x0 :: x1 :: x2 :: x3 :: x4 :: some v :: l, H⟩ = Q v ⟨x0 :: x1 :: x2 :: x3 :: x4 :: some v :: l, H⟩ := rfl
theorem kv6 {x0 x1 x2 x3 x4 x5 : Option AV} : varK (0 + 1 + 1 + 1 + 1 + 1 + 1) Q ⟨x0 :: x1 :: x2 :: x3 :: x4 :: x5 :: some v :: l, H⟩ = Q v ⟨x0 :: x1 :: x2 :: x3 :: x4 :: x5 :: some v :: l, H⟩ := rfl
theorem kv7 {x0 x1 x2 x3 x4 x5 x6 : Option AV} : varK (0 + 1 + 1 + 1 + 1 + 1 + 1 + 1) Q ⟨x0 :: x1 :: x2 :: x3 :: x4 :: x5 :: x6 :: some v :: l, H⟩ = Q v ⟨x0 :: x1 :: x2 :: x3 :: x4 :: x5 :: x6 :: some v :: l, H⟩ := rfl
theorem kv8 {x0 x1 x2 x3 x4 x5 x6 x7 : Option AV} : varK (0 + 1 + 1 + 1 + 1 + 1 + 1 + 1 + 1) Q ⟨x0 :: x1 :: x2 :: x3 :: x4 :: x5 :: x6 :: x7 :: some v :: l, H⟩ = Q v ⟨x0 :: x1 :: x2 :: x3 :: x4 :: x5 :: x6 :: x7 :: some v :: l, H⟩ := rfl
theorem kv9 {x0 x1 x2 x3 x4 x5 x6 x7 x8 : Option AV} : varK (0 + 1 + 1 + 1 + 1 + 1 + 1 + 1 + 1 + 1) Q ⟨x0 :: x1 :: x2 :: x3 :: x4 :: x5 :: x6 :: x7 :: x8 :: some v :: l, H⟩ = Q v ⟨x0 :: x1 :: x2 :: x3 :: x4 :: x5 :: x6 :: x7 :: x8 :: some v :: l, H⟩ := rfl
theorem kv10 {x0 x1 x2 x3 x4 x5 x6 x7 x8 x9 : Option AV} : varK (0 + 1 + 1 + 1 + 1 + 1 + 1 + 1 + 1 + 1 + 1) Q ⟨x0 :: x1 :: x2 :: x3 :: x4 :: x5 :: x6 :: x7 :: x8 :: x9 :: some v :: l, H⟩ = Q v ⟨x0 :: x1 :: x2 :: x3 :: x4 :: x5 :: x6 :: x7 :: x8 :: x9 :: some v :: l, H⟩ := rfl
theorem kv11 {x0 x1 x2 x3 x4 x5 x6 x7 x8 x9 x10 : Option AV} : varK (0 + 1 + 1 + 1 + 1 + 1 + 1 + 1 + 1 + 1 + 1 + 1) Q ⟨x0 :: x1 :: x2 :: x3 :: x4 :: x5 :: x6 :: x7 :: x8 :: x9 :: x10 :: some v :: l, H⟩ = Q v ⟨x0 :: x1 :: x2 :: x3 :: x4 :: x5 :: x6 :: x7 :: x8 :: x9 :: x10 :: some v :: l, H⟩ := rfl
theorem kv12 {x0 x1 x2 x3 x4 x5 x6 x7 x8 x9 x10 x11 : Option AV} : varK (0 + 1 + 1 + 1 + 1 + 1 + 1 + 1 + 1 + 1 + 1 + 1 + 1) Q ⟨x0 :: x1 :: x2 :: x3 :: x4 :: x5 :: x6 :: x7 :: x8 :: x9 :: x10 :: x11 :: some v :: l, H⟩ = Q v ⟨x0 :: x1 :: x2 :: x3 :: x4 :: x5 :: x6 :: x7 :: x8 :: x9 :: x10 :: x11 :: some v :: l, H⟩ := rfl
theorem kv13 {x0 x1 x2 x3 x4 x5 x6 x7 x8 x9 x10 x11 x12 : Option AV} : varK (0 + 1 + 1 + 1 + 1 + 1 + 1 + 1 + 1 + 1 + 1 + 1 + 1 + 1) Q ⟨x0 :: x1 :: x2 :: x3 :: x4 :: x5 :: x6 :: x7 :: x8 :: x9 :: x10 :: x11 :: x12 :: some v :: l, H⟩ = Q v ⟨x0 :: x1 :: x2 :: x3 :: x4 :: x5 :: x6 :: x7 :: x8 :: x9 :: x10 :: x11 :: x12 :: some v :: l, H⟩ := rfl
theorem kv14 {x0 x1 x2 x3 x4 x5 x6 x7 x8 x9 x10 x11 x12 x13 : Option AV} : varK (0 + 1 + 1 + 1 + 1 + 1 + 1 + 1 + 1 + 1 + 1 + 1 + 1 + 1 + 1) Q ⟨x0 :: x1 :: x2 :: x3 :: x4 :: x5 :: x6 :: x7 :: x8 :: x9 :: x10 :: x11 :: x12 :: x13 :: some v :: l, H⟩ = Q v ⟨x0 :: x1 :: x2 :: x3 :: x4 :: x5 :: x6 :: x7 :: x8 :: x9 :: x10 :: x11 :: x12 :: x13 :: some v :: l, H⟩ := rfl
theorem kv15 {x0 x1 x2 x3 x4 x5 x6 x7 x8 x9 x10 x11 x12 x13 x14 : Option AV} : varK (0 + 1 + 1 + 1 + 1 + 1 + 1 + 1 + 1 + 1 + 1 + 1 + 1 + 1 + 1 + 1) Q ⟨x0 :: x1 :: x2 :: x3 :: x4 :: x5 :: x6 :: x7 :: x8 :: x9 :: x10 :: x11 :: x12 :: x13 :: x14 :: some v :: l, H⟩ = Q v ⟨x0 :: x1 :: x2 :: x3 :: x4 :: x5 :: x6 :: x7 :: x8 :: x9 :: x10 :: x11 :: x12 :: x13 :: x14 :: some v :: l, H⟩ := rfl
theorem kv16 {x0 x1 x2 x3 x4 x5 x6 x7 x8 x9 x10 x11 x12 x13 x14 x15 : Option AV} : varK (0 + 1 + 1 + 1 + 1 + 1 + 1 + 1 + 1 + 1 + 1 + 1 + 1 + 1 + 1 + 1 + 1) Q ⟨x0 :: x1 :: x2 :: x3 :: x4 :: x5 :: x6 :: x7 :: x8 :: x9 :: x10 :: x11 :: x12 :: x13 :: x14 :: x15 :: some v :: l, H⟩ = Q v ⟨x0 :: x1 :: x2 :: x3 :: x4 :: x5 :: x6 :: x7 :: x8 :: x9 :: x10 :: x11 :: x12 :: x13 :: x14 :: x15 :: some v :: l, H⟩ := rfl
theorem kv17 {x0 x1 x2 x3 x4 x5 x6 x7 x8 x9 x10 x11 x12 x13 x14 x15 x16 : Option AV} : varK (0 + 1 + 1 + 1 + 1 + 1 + 1 + 1 + 1 + 1 + 1 + 1 + 1 + 1 + 1 + 1 + 1 + 1) Q ⟨x0 :: x1 :: x2 :: x3 :: x4 :: x5 :: x6 :: x7 :: x8 :: x9 :: x10 :: x11 :: x12 :: x13 :: x14 :: x15 :: x16 :: some v :: l, H⟩ = Q v ⟨x0 :: x1 :: x2 :: x3 :: x4 :: x5 :: x6 :: x7 :: x8 :: x9 :: x10 :: x11 :: x12 :: x13 :: x14 :: x15 :: x16 :: some v :: l, H⟩ := rfl
theorem kv18 {x0 x1 x2 x3 x4 x5 x6 x7 x8 x9 x10 x11 x12 x13 x14 x15 x16 x17 : Option AV} : varK (0 + 1 + 1 + 1 + 1 + 1 + 1 + 1 + 1 + 1 + 1 + 1 + 1 + 1 + 1 + 1 + 1 + 1 + 1) Q ⟨x0 :: x1 :: x2 :: x3 :: x4 :: x5 :: x6 :: x7 :: x8 :: x9 :: x10 :: x11 :: x12 :: x13 :: x14 :: x15 :: x16 :: x17 :: some v :: l, H⟩ = Q v ⟨x0 :: x1 :: x2 :: x3 :: x4 :: x5 :: x6 :: x7 :: x8 :: x9 :: x10 :: x11 :: x12 :: x13 :: x14 :: x15 :: x16 :: x17 :: some v :: l, H⟩ := rfl
theorem kv19 {x0 x1 x2 x3 x4 x5 x6 x7 x8 x9 x10 x11 x12 x13 x14 x15 x16 x17 x18 : Option AV} : varK (0 + 1 + 1 + 1 + 1 + 1 + 1 + 1 + 1 + 1 + 1 + 1 + 1 + 1 + 1 + 1 + 1 + 1 + 1 + 1) Q ⟨x0 :: x1 :: x2 :: x3 :: x4 :: x5 :: x6 :: x7 :: x8 :: x9 :: x10 :: x11 :: x12 :: x13 :: x14 :: x15 :: x16 :: x17 :: x18 :: some v :: l, H⟩ = Q v ⟨x0 :: x1 :: x2 :: x3 :: x4 :: x5 :: x6 :: x7 :: x8 :: x9 :: x10 :: x11 :: x12 :: x13 :: x14 :: x15 :: x16 :: x17 :: x18 :: some v :: l, H⟩ := rfl
theorem lt0 { y : Option AV} : letK (0) v QF ⟨y :: l, H⟩ = QF .next ⟨some v :: l, H⟩ := rfl
theorem lt1 {x0 y : Option AV} : letK (0 + 1) v QF ⟨x0 :: y :: l, H⟩ = QF .next ⟨x0 :: some v :: l, H⟩ := rfl
theorem lt2 {x0 x1 y : Option AV} : letK (0 + 1 + 1) v QF ⟨x0 :: x1 :: y :: l, H⟩ = QF .next ⟨x0 :: x1 :: some v :: l, H⟩ := rfl
theorem lt3 {x0 x1 x2 y : Option AV} : letK (0 + 1 + 1 + 1) v QF ⟨x0 :: x1 :: x2 :: y :: l, H⟩ = QF .next ⟨x0 :: x1 :: x2 :: some v :: l, H⟩ := rfl
theorem lt4 {x0 x1 x2 x3 y : Option AV} : letK (0 + 1 + 1 + 1 + 1) v QF ⟨x0 :: x1 :: x2 :: x3 :: y :: l, H⟩ = QF .next ⟨x0 :: x1 :: x2 :: x3 :: some v :: l, H⟩ := rfl
theorem lt5 {x0 x1 x2 x3 x4 y : Option AV} : letK (0 + 1 + 1 + 1 + 1 + 1) v QF ⟨x0 :: x1 :: x2 :: x3 :: x4 :: y :: l, H⟩ = QF .next ⟨x0 :: x1 :: x2 :: x3 :: x4 :: some v :: l, H⟩ := rfl
theorem lt6 {x0 x1 x2 x3 x4 x5 y : Option AV} : letK (0 + 1 + 1 + 1 + 1 + 1 + 1) v QF ⟨x0 :: x1 :: x2 :: x3 :: x4 :: x5 :: y :: l, H⟩ = QF .next ⟨x0 :: x1 :: x2 :: x3 :: x4 :: x5 :: some v :: l, H⟩ := rfl
theorem lt7 {x0 x1 x2 x3 x4 x5 x6 y : Option AV} : letK (0 + 1 + 1 + 1 + 1 + 1 + 1 + 1) v QF ⟨x0 :: x1 :: x2 :: x3 :: x4 :: x5 :: x6 :: y :: l, H⟩ = QF .next ⟨x0 :: x1 :: x2 :: x3 :: x4 :: x5 :: x6 :: some v :: l, H⟩ := rfl
theorem lt8 {x0 x1 x2 x3 x4 x5 x6 x7 y : Option AV} : letK (0 + 1 + 1 + 1 + 1 + 1 + 1 + 1 + 1) v QF ⟨x0 :: x1 :: x2 :: x3 :: x4 :: x5 :: x6 :: x7 :: y :: l, H⟩ = QF .next ⟨x0 :: x1 :: x2 :: x3 :: x4 :: x5 :: x6 :: x7 :: some v :: l, H⟩ := rfl
theorem lt9 {x0 x1 x2 x3 x4 x5 x6 x7 x8 y : Option AV} : letK (0 + 1 + 1 + 1 + 1 + 1 + 1 + 1 + 1 + 1) v QF ⟨x0 :: x1 :: x2 :: x3 :: x4 :: x5 :: x6 :: x7 :: x8 :: y :: l, H⟩ = QF .next ⟨x0 :: x1 :: x2 :: x3 :: x4 :: x5 :: x6 :: x7 :: x8 :: some v :: l, H⟩ := rfl
theorem lt10 {x0 x1 x2 x3 x4 x5 x6 x7 x8 x9 y : Option AV} : letK (0 + 1 + 1 + 1 + 1 + 1 + 1 + 1 + 1 + 1 + 1) v QF ⟨x0 :: x1 :: x2 :: x3 :: x4 :: x5 :: x6 :: x7 :: x8 :: x9 :: y :: l, H⟩ = QF .next ⟨x0 :: x1 :: x2 :: x3 :: x4 :: x5 :: x6 :: x7 :: x8 :: x9 :: some v :: l, H⟩ := rfl
theorem lt11 {x0 x1 x2 x3 x4 x5 x6 x7 x8 x9 x10 y : Option AV} : letK (0 + 1 + 1 + 1 + 1 + 1 + 1 + 1 + 1 + 1 + 1 + 1) v QF ⟨x0 :: x1 :: x2 :: x3 :: x4 :: x5 :: x6 :: x7 :: x8 :: x9 :: x10 :: y :: l, H⟩ = QF .next ⟨x0 :: x1 :: x2 :: x3 :: x4 :: x5 :: x6 :: x7 :: x8 :: x9 :: x10 :: some v :: l, H⟩ := rfl
theorem lt12 {x0 x1 x2 x3 x4 x5 x6 x7 x8 x9 x10 x11 y : Option AV} : letK (0 + 1 + 1 + 1 + 1 + 1 + 1 + 1 + 1 + 1 + 1 + 1 + 1) v QF ⟨x0 :: x1 :: x2 :: x3 :: x4 :: x5 :: x6 :: x7 :: x8 :: x9 :: x10 :: x11 :: y :: l, H⟩ = QF .next ⟨x0 :: x1 :: x2 :: x3 :: x4 :: x5 :: x6 :: x7 :: x8 :: x9 :: x10 :: x11 :: some v :: l, H⟩ := rfl
theorem lt13 {x0 x1 x2 x3 x4 x5 x6 x7 x8 x9 x10 x11 x12 y : Option AV} : letK (0 + 1 + 1 + 1 + 1 + 1 + 1 + 1 + 1 + 1 + 1 + 1 + 1 + 1) v QF ⟨x0 :: x1 :: x2 :: x3 :: x4 :: x5 :: x6 :: x7 :: x8 :: x9 :: x10 :: x11 :: x12 :: y :: l, H⟩ = QF .next ⟨x0 :: x1 :: x2 :: x3 :: x4 :: x5 :: x6 :: x7 :: x8 :: x9 :: x10 :: x11 :: x12 :: some v :: l, H⟩ := rfl
theorem lt14 {x0 x1 x2 x3 x4 x5 x6 x7 x8 x9 x10 x11 x12 x13 y : Option AV} : letK (0 + 1 + 1 + 1 + 1 + 1 + 1 + 1 + 1 + 1 + 1 + 1 + 1 + 1 + 1) v QF ⟨x0 :: x1 :: x2 :: x3 :: x4 :: x5 :: x6 :: x7 :: x8 :: x9 :: x10 :: x11 :: x12 :: x13 :: y :: l, H⟩ = QF .next ⟨x0 :: x1 :: x2 :: x3 :: x4 :: x5 :: x6 :: x7 :: x8 :: x9 :: x10 :: x11 :: x12 :: x13 :: some v :: l, H⟩ := rfl
theorem lt15 {x0 x1 x2 x3 x4 x5 x6 x7 x8 x9 x10 x11 x12 x13 x14 y : Option AV} : letK (0 + 1 + 1 + 1 + 1 + 1 + 1 + 1 + 1 + 1 + 1 + 1 + 1 + 1 + 1 + 1) v QF ⟨x0 :: x1 :: x2 :: x3 :: x4 :: x5 :: x6 :: x7 :: x8 :: x9 :: x10 :: x11 :: x12 :: x13 :: x14 :: y :: l, H⟩ = QF .next ⟨x0 :: x1 :: x2 :: x3 :: x4 :: x5 :: x6 :: x7 :: x8 :: x9 :: x10 :: x11 :: x12 :: x13 :: x14 :: some v :: l, H⟩ := rfl
theorem lt16 {x0 x1 x2 x3 x4 x5 x6 x7 x8 x9 x10 x11 x12 x13 x14 x15 y : Option AV} : letK (0 + 1 + 1 + 1 + 1 + 1 + 1 + 1 + 1 + 1 + 1 + 1 + 1 + 1 + 1 + 1 + 1) v QF ⟨x0 :: x1 :: x2 :: x3 :: x4 :: x5 :: x6 :: x7 :: x8 :: x9 :: x10 :: x11 :: x12 :: x13 :: x14 :: x15 :: y :: l, H⟩ = QF .next ⟨x0 :: x1 :: x2 :: x3 :: x4 :: x5 :: x6 :: x7 :: x8 :: x9 :: x10 :: x11 :: x12 :: x13 :: x14 :: x15 :: some v :: l, H⟩ := rfl
theorem lt17 {x0 x1 x2 x3 x4 x5 x6 x7 x8 x9 x10 x11 x12 x13 x14 x15 x16 y : Option AV} : letK (0 + 1 + 1 + 1 + 1 + 1 + 1 + 1 + 1 + 1 + 1 + 1 + 1 + 1 + 1 + 1 + 1 + 1) v QF ⟨x0 :: x1 :: x2 :: x3 :: x4 :: x5 :: x6 :: x7 :: x8 :: x9 :: x10 :: x11 :: x12 :: x13 :: x14 :: x15 :: x16 :: y :: l, H⟩ = QF .next ⟨x0 :: x1 :: x2 :: x3 :: x4 :: x5 :: x6 :: x7 :: x8 :: x9 :: x10 :: x11 :: x12 :: x13 :: x14 :: x15 :: x16 :: some v :: l, H⟩ := rfl
theorem lt18 {x0 x1 x2 x3 x4 x5 x6 x7 x8 x9 x10 x11 x12 x13 x14 x15 x16 x17 y : Option AV} : letK (0 + 1 + 1 + 1 + 1 + 1 + 1 + 1 + 1 + 1 + 1 + 1 + 1 + 1 + 1 + 1 + 1 + 1 + 1) v QF ⟨x0 :: x1 :: x2 :: x3 :: x4 :: x5 :: x6 :: x7 :: x8 :: x9 :: x10 :: x11 :: x12 :: x13 :: x14 :: x15 :: x16 :: x17 :: y :: l, H⟩ = QF .next ⟨x0 :: x1 :: x2 :: x3 :: x4 :: x5 :: x6 :: x7 :: x8 :: x9 :: x10 :: x11 :: x12 :: x13 :: x14 :: x15 :: x16 :: x17 :: some v :: l, H⟩ := rfl
theorem lt19 {x0 x1 x2 x3 x4 x5 x6 x7 x8 x9 x10 x11 x12 x13 x14 x15 x16 x17 x18 y : Option AV} : letK (0 + 1 + 1 + 1 + 1 + 1 + 1 + 1 + 1 + 1 + 1 + 1 + 1 + 1 + 1 + 1 + 1 + 1 + 1 + 1) v QF ⟨x0 :: x1 :: x2 :: x3 :: x4 :: x5 :: x6 :: x7 :: x8 :: x9 :: x10 :: x11 :: x12 :: x13 :: x14 :: x15 :: x16 :: x17 :: x18 :: y :: l, H⟩ = QF .next ⟨x0 :: x1 :: x2 :: x3 :: x4 :: x5 :: x6 :: x7 :: x8 :: x9 :: x10 :: x11 :: x12 :: x13 :: x14 :: x15 :: x16 :: x17 :: x18 :: some v :: l, H⟩ := rfl
theorem tn_next {Wb : Pr AF} {σ : Stt} : thenK Wb QF .next σ = Wb QF σ := rfl
theorem tn_ret {Wb : Pr AF} {σ : Stt} : thenK Wb QF (.ret v) σ = QF (.ret v) σ := rfl
theorem tn_cont {Wb : Pr AF} {σ : Stt} : thenK Wb QF .cont σ = QF .cont σ := rfl
theorem vc_var (h : GetAt l i v) (k : Q v ⟨l, H⟩) : varK i Q ⟨l, H⟩ := by
  unfold varK; rw [show (Stt.mk l H).loc[i]? = some (some v) from h.eq]; exact k
theorem vc_let (h : SetAt l i v l') (k : QF .next ⟨l', H⟩) : letK i v QF ⟨l, H⟩ := by
  unfold letK Stt.let'; dsimp only; rw [h.eq]; exact k
theorem vc_lets_nil {as : List AV} (k : QF .next ⟨l, H⟩) : letsK [] as QF ⟨l, H⟩ := by
  unfold letsK; cases as <;> exact k
theorem vc_lets_cons {is : List Nat} {as : List AV} (h : SetAt l i v l') (k : letsK is as QF ⟨l', H⟩) : letsK (i :: is) (v :: as) QF ⟨l, H⟩ := by
  show QF .next (((Stt.mk l H).let' i v).lets is as)
  unfold Stt.let'; dsimp only; rw [h.eq]; exact k
theorem vc_next {W : Pr AF} {σ : Stt} (k : W QF σ) : thenK W QF .next σ := k
theorem vc_ret {W : Pr AF} {σ : Stt} (k : QF (.ret v) σ) : thenK W QF (.ret v) σ := k
theorem vc_cont {W : Pr AF} {σ : Stt} (k : QF .cont σ) : thenK W QF .cont σ := k
theorem vc_retK {H₀ : Hp} {Q : AV → Hp → Prop} (k : Q v (H.back H₀)) : retK H₀ Q (.ret v) ⟨l, H⟩ := k
theorem vc_retN {H₀ : Hp} {Q : AV → Hp → Prop} (k : Q .none (H.back H₀)) : retK H₀ Q .next ⟨l, H⟩ := k
theorem vc_add {σ : Stt} (k : Q (.int (x + y)) σ) : binK .Add (.int x) (.int y) Q σ := k
theorem vc_sub {σ : Stt} (k : Q (.int (x - y)) σ) : binK .Sub (.int x) (.int y) Q σ := k
theorem vc_mul {σ : Stt} (h1 : sm x) (h2 : sm y) (k : Q (.int (x * y)) σ) : binK .Mult (.int x) (.int y) Q σ := ⟨⟨h1, h2⟩, k⟩
theorem vc_fdiv {σ : Stt} (h1 : 0 < y) (h2 : sm y) (k : Q (.int (x / y)) σ) : binK .FloorDiv (.int x) (.int y) Q σ := ⟨⟨h1, h2⟩, k⟩
theorem vc_mod {σ : Stt} (h1 : 0 < y) (k : Q (.int (x % y)) σ) : binK .Mod (.int x) (.int y) Q σ := ⟨h1, k⟩
theorem vc_pow {σ : Stt} (h1 : 0 ≤ y) (h2 : y ≤ 1000000) (k : Q (.int (2 ^ y.toNat)) σ) : binK .Pow (.int 2) (.int y) Q σ := ⟨⟨rfl, h1, h2⟩, k⟩
theorem vc_shl {σ : Stt} (h1 : sm x) (h2 : 0 ≤ y) (h3 : y ≤ 1000000) (k : Q (.int (x * 2 ^ y.toNat)) σ) : binK .LShift (.int x) (.int y) Q σ := ⟨⟨h1, h2, h3⟩, k⟩
theorem vc_shr {σ : Stt} (h1 : 0 ≤ y) (k : Q (.int (x / 2 ^ y.toNat)) σ) : binK .RShift (.int x) (.int y) Q σ := ⟨h1, k⟩
theorem vc_band {σ : Stt} (k : Q (.int (Builtin.bitAnd x y)) σ) : binK .BitAnd (.int x) (.int y) Q σ := k
theorem vc_bor {σ : Stt} (k : Q (.int (Builtin.bitOr x y)) σ) : binK .BitOr (.int x) (.int y) Q σ := k
theorem vc_iadd {σ : Stt} (k : Q (.int (x + y)) σ) : augK .Add (.int x) (.int y) Q σ := k
theorem vc_isub {σ : Stt} (k : Q (.int (x - y)) σ) : augK .Sub (.int x) (.int y) Q σ := k
theorem vc_ishr {σ : Stt} (h1 : 0 ≤ y) (k : Q (.int (x / 2 ^ y.toNat)) σ) : augK .RShift (.int x) (.int y) Q σ := ⟨h1, k⟩
theorem vc_ibor {σ : Stt} (k : Q (.int (Builtin.bitOr x y)) σ) : augK .BitOr (.int x) (.int y) Q σ := k
theorem vc_neg {σ : Stt} (k : Q (.int (-x)) σ) : negK (.int x) Q σ := k
theorem vc_eq {σ : Stt} (k : QB (x == y) σ) : cmpC .Eq (.int x) (.int y) QB σ := k
theorem vc_ne {σ : Stt} (k : QB (x != y) σ) : cmpC .NotEq (.int x) (.int y) QB σ := k
theorem vc_lt {σ : Stt} (k : QB (decide (x < y)) σ) : cmpC .Lt (.int x) (.int y) QB σ := k
theorem vc_le {σ : Stt} (k : QB (decide (x ≤ y)) σ) : cmpC .LtE (.int x) (.int y) QB σ := k
theorem vc_gt {σ : Stt} (k : QB (decide (y < x)) σ) : cmpC .Gt (.int x) (.int y) QB σ := k
theorem vc_ge {σ : Stt} (k : QB (decide (y ≤ x)) σ) : cmpC .GtE (.int x) (.int y) QB σ := k
theorem vc_isN_int {σ : Stt} (k : QB false σ) : cmpC .Is (.int x) .none QB σ := ⟨rfl, k⟩
theorem vc_isN_none {σ : Stt} (k : QB true σ) : cmpC .Is .none .none QB σ := ⟨rfl, k⟩
theorem vc_isN_ref {σ : Stt} {a : Addr} (k : QB false σ) : cmpC .Is (.ref a) .none QB σ := ⟨rfl, k⟩
theorem vc_isN_str {σ : Stt} {a : Str} (k : QB false σ) : cmpC .Is (.str a) .none QB σ := ⟨rfl, k⟩
theorem vc_eqL {a b : Addr} {ns ms : List Int} (h1 : H.rd a = some (.list (ns.map .int))) (h2 : H.rd b = some (.list (ms.map .int))) (k : QB (decide (ns = ms)) ⟨l, H⟩) : cmpC .Eq (.ref a) (.ref b) QB ⟨l, H⟩ := ⟨ns, ms, h1, h2, k⟩
theorem vc_neL {a b : Addr} {ns ms : List Int} (h1 : H.rd a = some (.list (ns.map .int))) (h2 : H.rd b = some (.list (ms.map .int))) (k : QB (!decide (ns = ms)) ⟨l, H⟩) : cmpC .NotEq (.ref a) (.ref b) QB ⟨l, H⟩ := ⟨ns, ms, h1, h2, k⟩
theorem vc_tru {b : Bool} {σ : Stt} (k : QB b σ) : truC (.bool b) QB σ := k
theorem vc_if {c : Prop} {inst : Decidable c} (h1 : c → P) (h2 : ¬ c → P') : iteK (decide c) P P' := by
  unfold iteK
  by_cases h : c
  · rw [if_pos (decide_eq_true h)]; exact h1 h
  · rw [if_neg (by simp [h])]; exact h2 h
theorem vc_if_not {b : Bool} (h : iteK b P' P) : iteK (!b) P P' := by
  cases b <;> exact h
theorem vc_if_eq (h1 : x = y → P) (h2 : x ≠ y → P') : iteK (x == y) P P' := by
  unfold iteK
  by_cases h : x = y
  · rw [if_pos (by simp [h])]; exact h1 h
  · rw [if_neg (by simp [h])]; exact h2 h
theorem vc_if_ne (h1 : x ≠ y → P) (h2 : x = y → P') : iteK (x != y) P P' := by
  unfold iteK
  by_cases h : x = y
  · rw [if_neg (by simp [h])]; exact h2 h
  · rw [if_pos (by simp [h])]; exact h1 h
theorem vc_if_t (h : P) : iteK true P P' := h
theorem vc_if_f (h : P') : iteK false P P' := h
theorem vc_new {ob : AObj} (k : ∀ q H', H.Sub H' → H.rd q = none → H'.rd q = some ob → H'.own q → Q (.ref q) ⟨l, H'⟩) : newK ob Q ⟨l, H⟩ := by
  intro q hq
  refine k q (H.put q ob) ⟨fun a ao e => ?_, fun a e => .inr e, fun a e => e.elim (fun z => .inr (z ▸ hq)) .inl⟩ hq ?_ (.inl rfl)
  · show (if a = q then some ob else H.rd a) = some ao
    rw [if_neg fun z => by subst z; rw [show H.rd a = none from hq] at e; cases e]
    exact e
  · show (if q = q then some ob else H.rd q) = some ob
    rw [if_pos rfl]
theorem vc_list {xs : List AV} (h : xs.length ≤ 1000000) (k : newK (.list xs) Q ⟨l, H⟩) : xs.length ≤ 1000000 ∧ newK (.list xs) Q ⟨l, H⟩ := ⟨h, k⟩
theorem vc_cat {a b : Addr} {xs ys : List AV} (h1 : H.rd a = some (.list xs)) (h2 : H.rd b = some (.list ys)) (h3 : xs.length + ys.length ≤ 1000000) (k : newK (.list (xs ++ ys)) Q ⟨l, H⟩) : binK .Add (.ref a) (.ref b) Q ⟨l, H⟩ := ⟨rfl, xs, ys, h1, h2, h3, k⟩
theorem vc_rep {a : Addr} {z : AV} (h1 : H.rd a = some (.list [z])) (h2 : 0 ≤ x) (h3 : x ≤ 1000000) (k : newK (.list (List.replicate x.toNat z)) Q ⟨l, H⟩) : binK .Mult (.ref a) (.int x) Q ⟨l, H⟩ := ⟨rfl, z, h1, h2, h3, k⟩
theorem vc_len {a : Addr} {xs : List AV} (h1 : H.rd a = some (.list xs)) (h2 : xs.length ≤ 1000000) (k : Q (.int xs.length) ⟨l, H⟩) : lenK [.ref a] Q ⟨l, H⟩ := ⟨xs, h1, h2, k⟩
theorem vc_idx {a : Addr} {xs : List AV} {z : AV} (h1 : H.rd a = some (.list xs)) (h2 : atI xs x = some z) (h3 : -(2 ^ 60) < x ∧ x < 2 ^ 60) (k : Q z ⟨l, H⟩) : idxK (.ref a) (.int x) Q ⟨l, H⟩ := ⟨xs, z, .inl h1, h2, h3, k⟩
theorem vc_idxT {a : Addr} {xs : List AV} {z : AV} (h1 : H.rd a = some (.tup xs)) (h2 : atI xs x = some z) (h3 : -(2 ^ 60) < x ∧ x < 2 ^ 60) (k : Q z ⟨l, H⟩) : idxK (.ref a) (.int x) Q ⟨l, H⟩ := ⟨xs, z, .inr h1, h2, h3, k⟩
theorem vc_cutA {a : Addr} {xs : List AV} (h1 : H.rd a = some (.list xs)) (h2 : xs.length ≤ 1000000) (k : newK (.list xs) Q ⟨l, H⟩) : cutK (.ref a) .none .none Q ⟨l, H⟩ := by
  refine ⟨?_, ?_, .inl rfl, xs, h1, h2, k⟩ <;> (intro k h; cases h)
theorem vc_cutT {a : Addr} {xs : List AV} (h1 : H.rd a = some (.list xs)) (h2 : xs.length ≤ 1000000) (h3 : 0 ≤ x) (k : newK (.list (xs.take x.toNat)) Q ⟨l, H⟩) : cutK (.ref a) .none (.int x) Q ⟨l, H⟩ := by
  refine ⟨?_, ?_, .inl rfl, xs, h1, h2, k⟩ <;> (intro k h; cases h)
  exact h3
theorem vc_cutF {a : Addr} {xs : List AV} (h1 : H.rd a = some (.list xs)) (h2 : xs.length ≤ 1000000) (h3 : 0 ≤ x) (k : newK (.list (xs.drop x.toNat)) Q ⟨l, H⟩) : cutK (.ref a) (.int x) .none Q ⟨l, H⟩ := by
  refine ⟨?_, ?_, .inr rfl, xs, h1, h2, k⟩ <;> (intro k h; cases h)
  exact h3
theorem vc_call {f : Addr} {as : List AV} (k : callP g D f as H fun v H' => Q v ⟨l, H'⟩) : callK g D (.ref f) as Q ⟨l, H⟩ := ⟨f, rfl, k⟩
theorem vc_isList {a : Addr} {xs : List AV} (h1 : H.rd a = some (.list xs)) (k : P) : isListK (.ref a) ⟨l, H⟩ P := ⟨⟨a, xs, rfl, h1⟩, k⟩
structure Turned (H : Hp) (f : Addr) (x : AObj) (H' : Hp) : Prop where
  at_ : H'.rd f = some x
  off : ∀ a, a ≠ f → H'.rd a = H.rd a
  own : ∀ a, H'.own a ↔ H.own a
theorem Hp.set_turned (H : Hp) (f : Addr) (x : AObj) : Turned H f x (H.set f x) :=
  ⟨by show (if f = f then some x else _) = _; rw [if_pos rfl], fun a h => by show (if a = f then some x else _) = _; rw [if_neg h], fun _ => Iff.rfl⟩
theorem vc_app {a : Addr} {xs : List AV} (h1 : H.rd a = some (.list xs)) (h2 : H.own a) (h3 : xs.length ≤ 1000000) (k : ∀ H', Turned H a (.list (xs ++ [v])) H' → QF .next ⟨l, H'⟩) : appK (.ref a) v QF ⟨l, H⟩ := ⟨xs, h1, h2, h3, k _ (H.set_turned _ _)⟩
theorem vc_set {a : Addr} {xs : List AV} (h1 : H.rd a = some (.list xs)) (h2 : H.own a) (h3 : 0 ≤ x) (h4 : x < xs.length) (h5 : xs.length ≤ 1000000) (k : ∀ H', Turned H a (.list (xs.set x.toNat v)) H' → QF .next ⟨l, H'⟩) : setK (.ref a) (.int x) v QF ⟨l, H⟩ := ⟨xs, h1, h2, h3, h4, h5, k _ (H.set_turned _ _)⟩
theorem Hp.Sub.trans {H H' H'' : Hp} (x : H.Sub H') (y : H'.Sub H'') : H.Sub H'' := ⟨fun a ao e => y.1 a ao (x.1 a ao e), fun a e => y.2.1 a (x.2.1 a e), fun a e => (y.2.2 a e).elim (x.2.2 a) fun e => .inr (none_of fun z q => by have := x.1 _ _ q; rw [e] at this; cases this)⟩
theorem Hp.Sub.turned {H₀ H H' : Hp} {f : Addr} {z : AObj} (s : H₀.Sub H) (h : H₀.rd f = none) (t : Turned H f z H') : H₀.Sub H' :=
  ⟨fun a ao e => (t.off a fun q => by subst q; rw [h] at e; cases e).trans (s.1 a ao e), fun a e => (t.own a).mpr (s.2.1 a e), fun a e => s.2.2 a ((t.own a).mp e)⟩
theorem Hp.Sub.noown {H H' : Hp} {f : Addr} {x : AObj} (s : H.Sub H') (n : ¬ H.own f) (e : H.rd f = some x) : ¬ H'.own f := fun z => (s.2.2 f z).elim n fun q => by rw [e] at q; cases q
theorem Turned.keep {H H' : Hp} {f a : Addr} {z y : AObj} (t : Turned H f z H') (n : a ≠ f) (h : H.rd a = some y) : H'.rd a = some y := (t.off a n).trans h
theorem ne_of_rd {H : Hp} {a f : Addr} {y : AObj} (h : H.rd a = some y) (hf : H.rd f = none) : a ≠ f := fun q => by subst q; rw [hf] at h; cases h
theorem Hp.Sub.none {H H' : Hp} {a : Addr} (s : H.Sub H') (h : H'.rd a = none) : H.rd a = none := none_of fun x e => by have := s.1 _ _ e; rw [h] at this; cases this
noncomputable def LN (ds : List Nat) : AObj := .list (ds.map fun (d : Nat) => AV.int (d : Int))
theorem atI_nat {ds : List Nat} {k : Int} (h0 : 0 ≤ k) (h1 : k < ds.length) : atI (ds.map fun (d : Nat) => AV.int (d : Int)) k = some (.int ((ds.getD k.toNat 0 : Nat) : Int)) := by
  unfold atI
  rw [if_pos h0]
  have : k.toNat < ds.length := by (first | lia | omega)
  simp [this]
theorem atI_neg {ds : List Nat} {k : Int} (h0 : k < 0) (h1 : 0 ≤ k + ds.length) : atI (ds.map fun (d : Nat) => AV.int (d : Int)) k = some (.int ((ds.getD (k + ds.length).toNat 0 : Nat) : Int)) := by
  unfold atI
  rw [if_neg (by (first | lia | omega)), if_pos (by simpa using h1)]
  have : (k + ds.length).toNat < ds.length := by (first | lia | omega)
  simp [this]
theorem Hp.Sub.get {H H' : Hp} {a : Addr} {y : AObj} (s : H.Sub H') (h : H.rd a = some y) : H'.rd a = some y := s.1 _ _ h
theorem vn_len {a : Addr} {ds : List Nat} (h1 : H.rd a = some (LN ds)) (h2 : ds.length ≤ 1000000) (k : Q (.int ds.length) ⟨l, H⟩) : lenK [.ref a] Q ⟨l, H⟩ := by
  refine vc_len h1 (by simpa using h2) ?_
  simpa using k
theorem vn_idx {a : Addr} {ds : List Nat} (h1 : H.rd a = some (LN ds)) (h2 : 0 ≤ x) (h3 : x < ds.length) (h4 : ds.length ≤ 1000000) (k : Q (.int ((ds.getD x.toNat 0 : Nat) : Int)) ⟨l, H⟩) : idxK (.ref a) (.int x) Q ⟨l, H⟩ :=
  vc_idx h1 (atI_nat h2 h3) (by (first | lia | omega)) k
theorem vn_idxN {a : Addr} {ds : List Nat} (h1 : H.rd a = some (LN ds)) (h2 : x < 0) (h3 : 0 ≤ x + ds.length) (h4 : ds.length ≤ 1000000) (k : Q (.int ((ds.getD (x + ds.length).toNat 0 : Nat) : Int)) ⟨l, H⟩) : idxK (.ref a) (.int x) Q ⟨l, H⟩ :=
  vc_idx h1 (atI_neg h2 h3) (by (first | lia | omega)) k
theorem vn_cutA {a : Addr} {ds : List Nat} (h1 : H.rd a = some (LN ds)) (h2 : ds.length ≤ 1000000) (k : newK (LN ds) Q ⟨l, H⟩) : cutK (.ref a) .none .none Q ⟨l, H⟩ := vc_cutA h1 (by simpa using h2) k
theorem vn_cutT {a : Addr} {ds : List Nat} (h1 : H.rd a = some (LN ds)) (h2 : ds.length ≤ 1000000) (h3 : 0 ≤ x) (k : newK (LN (ds.take x.toNat)) Q ⟨l, H⟩) : cutK (.ref a) .none (.int x) Q ⟨l, H⟩ := by
  refine vc_cutT h1 (by simpa using h2) h3 ?_
  rw [← List.map_take]; exact k
theorem vn_cutF {a : Addr} {ds : List Nat} (h1 : H.rd a = some (LN ds)) (h2 : ds.length ≤ 1000000) (h3 : 0 ≤ x) (k : newK (LN (ds.drop x.toNat)) Q ⟨l, H⟩) : cutK (.ref a) (.int x) .none Q ⟨l, H⟩ := by
  refine vc_cutF h1 (by simpa using h2) h3 ?_
  rw [← List.map_drop]; exact k
theorem vn_cat {a b : Addr} {ds es : List Nat} (h1 : H.rd a = some (LN ds)) (h2 : H.rd b = some (LN es)) (h3 : ds.length + es.length ≤ 1000000) (k : newK (LN (ds ++ es)) Q ⟨l, H⟩) : binK .Add (.ref a) (.ref b) Q ⟨l, H⟩ := by
  refine vc_cat h1 h2 (by simpa using h3) ?_
  rw [← List.map_append]; exact k
theorem vn_rep {a : Addr} {d : Nat} (h1 : H.rd a = some (LN [d])) (h2 : 0 ≤ x) (h3 : x ≤ 1000000) (k : newK (LN (List.replicate x.toNat d)) Q ⟨l, H⟩) : binK .Mult (.ref a) (.int x) Q ⟨l, H⟩ := by
  refine vc_rep (z := .int d) h1 h2 h3 ?_
  unfold LN at k; rw [List.map_replicate] at k; exact k
theorem vn_app {a : Addr} {ds : List Nat} {d : Nat} (h1 : H.rd a = some (LN ds)) (h2 : H.own a) (h3 : ds.length ≤ 1000000) (e : x = (d : Int)) (k : ∀ H', Turned H a (LN (ds ++ [d])) H' → QF .next ⟨l, H'⟩) : appK (.ref a) (.int x) QF ⟨l, H⟩ := by
  subst e
  refine vc_app h1 h2 (by simpa using h3) fun H' t => k H' ?_
  unfold LN; rw [List.map_append]; exact t
theorem vn_set {a : Addr} {ds : List Nat} {d : Nat} {z : Int} (h1 : H.rd a = some (LN ds)) (h2 : H.own a) (h3 : 0 ≤ x) (h4 : x < ds.length) (h5 : ds.length ≤ 1000000) (e : z = (d : Int)) (k : ∀ H', Turned H a (LN (ds.set x.toNat d)) H' → QF .next ⟨l, H'⟩) : setK (.ref a) (.int x) (.int z) QF ⟨l, H⟩ := by
  subst e
  refine vc_set h1 h2 h3 (by simpa using h4) (by simpa using h5) fun H' t => k H' ?_
  unfold LN; rw [List.map_set]; exact t
theorem vn_isList {a : Addr} {ds : List Nat} (h1 : H.rd a = some (LN ds)) (k : P) : isListK (.ref a) ⟨l, H⟩ P := vc_isList h1 k
theorem LN_int {ds : List Nat} : LN ds = .list ((ds.map fun (d : Nat) => (d : Int)).map .int) := by unfold LN; rw [List.map_map]; rfl
theorem castL_inj {ds es : List Nat} : (ds.map (fun (d : Nat) => (d : Int)) = es.map (fun (d : Nat) => (d : Int))) ↔ ds = es := by
  constructor
  · intro h
    induction ds generalizing es with
    | nil => cases es with
      | nil => rfl
      | cons _ _ => cases h
    | cons a r ih => cases es with
      | nil => cases h
      | cons b s =>
        simp only [List.map_cons, List.cons.injEq] at h
        rw [ih h.2, show a = b by (first | lia | omega)]
  · rintro rfl; rfl
theorem vn_eqL {a b : Addr} {ds es : List Nat} (h1 : H.rd a = some (LN ds)) (h2 : H.rd b = some (LN es)) (k : QB (decide (ds = es)) ⟨l, H⟩) : cmpC .Eq (.ref a) (.ref b) QB ⟨l, H⟩ := by
  refine vc_eqL (h1.trans (by rw [LN_int])) (h2.trans (by rw [LN_int])) ?_
  simpa only [castL_inj] using k
theorem vn_neL {a b : Addr} {ds es : List Nat} (h1 : H.rd a = some (LN ds)) (h2 : H.rd b = some (LN es)) (k : QB (!decide (ds = es)) ⟨l, H⟩) : cmpC .NotEq (.ref a) (.ref b) QB ⟨l, H⟩ := by
  refine vc_neL (h1.trans (by rw [LN_int])) (h2.trans (by rw [LN_int])) ?_
  simpa only [castL_inj] using k
end
theorem tr_lit {F : Fm} {n : Nat} {k p} : TrE F (.Constant (.int (@OfNat.ofNat Int n (@instOfNat n))) k p) (fun Q σ => Q (.int ((@OfNat.ofNat Nat n (instOfNatNat n) : Nat) : Int)) σ) := tr_int
noncomputable def cmpI (x y : Nat) : AV := if x < y then .int (-((1 : Nat) : Int)) else if x = y then .int ((0 : Nat) : Int) else .int ((1 : Nat) : Int)
theorem cmpI_lt {x y : Nat} (h : x < y) : cmpI x y = .int (-((1 : Nat) : Int)) := if_pos h
theorem cmpI_eq {x : Nat} : cmpI x x = .int ((0 : Nat) : Int) := by unfold cmpI; rw [if_neg (Nat.lt_irrefl _), if_pos rfl]
theorem cmpI_gt {x y : Nat} (h : y < x) : cmpI x y = .int ((1 : Nat) : Int) := by unfold cmpI; rw [if_neg (by (first | lia | omega)), if_neg (by (first | lia | omega))]
theorem pw {w : Nat} (hw : 2 ≤ w ∧ w ≤ 9) : 4 ≤ 2 ^ w ∧ 2 ^ w ≤ 512 := ⟨Nat.pow_le_pow_right (n := 2) (by decide) hw.1, Nat.pow_le_pow_right (n := 2) (by decide) hw.2⟩
section
variable {l l' : List (Option AV)} {H : Hp} {Q : AV → Stt → Prop} {QF : AF → Stt → Prop} {QB : Bool → Stt → Prop} {P P' : Prop} {x y : Nat} {i : Nat} {v : AV} {g : Gs} {D : Nat} {σ : Stt} {a c : Addr} {ds es : List Nat}
theorem smN {x : Nat} (h : x < 2 ^ 200) : sm (x : Int) := ⟨by (first | lia | omega), by (first | lia | omega)⟩
theorem vq_add (k : Q (.int ((x + y : Nat) : Int)) σ) : binK .Add (.int (x : Int)) (.int (y : Int)) Q σ := vc_add (by rw [← Int.natCast_add]; exact k)
theorem vq_sub (h : y ≤ x) (k : Q (.int ((x - y : Nat) : Int)) σ) : binK .Sub (.int (x : Int)) (.int (y : Int)) Q σ := vc_sub (by rw [← Int.ofNat_sub h]; exact k)
theorem vq_mul (h1 : x < 2 ^ 200) (h2 : y < 2 ^ 200) (k : Q (.int ((x * y : Nat) : Int)) σ) : binK .Mult (.int (x : Int)) (.int (y : Int)) Q σ := vc_mul (smN h1) (smN h2) (by rw [← Int.natCast_mul]; exact k)
theorem vq_fdiv (h1 : 0 < y) (h2 : y < 2 ^ 200) (k : Q (.int ((x / y : Nat) : Int)) σ) : binK .FloorDiv (.int (x : Int)) (.int (y : Int)) Q σ := vc_fdiv (by (first | lia | omega)) (smN h2) (by rw [← Int.natCast_ediv]; exact k)
theorem vq_mod (h1 : 0 < y) (k : Q (.int ((x % y : Nat) : Int)) σ) : binK .Mod (.int (x : Int)) (.int (y : Int)) Q σ := vc_mod (by (first | lia | omega)) (by rw [← Int.natCast_emod]; exact k)
theorem vq_pow (h2 : y ≤ 1000000) (k : Q (.int ((2 ^ y : Nat) : Int)) σ) : binK .Pow (.int ((2 : Nat) : Int)) (.int (y : Int)) Q σ := vc_pow (by (first | lia | omega)) (by (first | lia | omega)) (by rw [Int.toNat_natCast]; rw [Int.natCast_pow] at k; exact k)
theorem vq_shl (h1 : x < 2 ^ 200) (h3 : y ≤ 1000000) (k : Q (.int ((x * 2 ^ y : Nat) : Int)) σ) : binK .LShift (.int (x : Int)) (.int (y : Int)) Q σ := vc_shl (smN h1) (by (first | lia | omega)) (by (first | lia | omega)) (by rw [Int.toNat_natCast]; rw [Int.natCast_mul, Int.natCast_pow] at k; exact k)
theorem vq_shr (k : Q (.int ((x / 2 ^ y : Nat) : Int)) σ) : binK .RShift (.int (x : Int)) (.int (y : Int)) Q σ := vc_shr (by (first | lia | omega)) (by rw [Int.toNat_natCast]; rw [Int.natCast_ediv, Int.natCast_pow] at k; exact k)
theorem band_mask (x : Int) (w : Nat) : Builtin.bitAnd x ((1 * 2 ^ w - 1 : Nat) : Int) = x % 2 ^ w := by
  have h : 1 ≤ 1 * 2 ^ w := by rw [Nat.one_mul]; exact Nat.pow_pos (by decide)
  rw [Int.ofNat_sub h, Int.natCast_mul, Int.natCast_pow]
  have e : ((1 : Nat) : Int) * ((2 : Nat) : Int) ^ w - ((1 : Nat) : Int) = 2 ^ w - 1 := by simp
  rw [e, kbt_mask]
theorem band_cap (x : Nat) (w : Nat) : Builtin.bitAnd (x : Int) ((1 * 2 ^ w - 1 : Nat) : Int) = ((x % 2 ^ w : Nat) : Int) := by
  rw [band_mask, Int.natCast_emod, Int.natCast_pow]; rfl
theorem vq_mask {w : Nat} (k : Q (.int ((x % 2 ^ w : Nat) : Int)) σ) : binK .BitAnd (.int (x : Int)) (.int ((1 * 2 ^ w - 1 : Nat) : Int)) Q σ := vc_band (by rw [band_cap]; exact k)
theorem vq_maskI {w : Nat} {x : Int} (k : Q (.int ((x % 2 ^ w).toNat : Int)) σ) : binK .BitAnd (.int x) (.int ((1 * 2 ^ w - 1 : Nat) : Int)) Q σ := vc_band (by
  rw [band_mask]
  rw [Int.toNat_of_nonneg (Int.emod_nonneg _ (by have : (0 : Int) < 2 ^ w := Int.pow_pos (by decide); (first | lia | omega)))] at k
  exact k)
theorem vq_and1 (k : Q (.int ((x % 2 : Nat) : Int)) σ) : binK .BitAnd (.int (x : Int)) (.int ((1 : Nat) : Int)) Q σ := vc_band (by
  have := bitAnd_m1 (x : Int)
  rw [show ((1 : Nat) : Int) = 1 from rfl, this]
  have e : (x : Int) % 2 = ((x % 2 : Nat) : Int) := by (first | lia | omega)
  rw [e]; exact k)
theorem or_parts {x y k : Nat} (h : x < 2 ^ k) : Builtin.bitOr (x : Int) ((y * 2 ^ k : Nat) : Int) = ((x + y * 2 ^ k : Nat) : Int) := by
  rw [bitOr_and, bitAnd_pp (by (first | lia | omega)) (by (first | lia | omega))]
  have : (x : Int).toNat &&& ((y * 2 ^ k : Nat) : Int).toNat = 0 := by
    simp only [Int.toNat_natCast]
    apply Nat.eq_of_testBit_eq
    intro i
    rw [Nat.testBit_and, Nat.zero_testBit]
    by_cases hi : i < k
    · have e : (y * 2 ^ k).testBit i = false := by rw [Nat.mul_comm, Nat.testBit_two_pow_mul]; simp; (first | lia | omega)
      rw [e, Bool.and_false]
    · rw [Nat.testBit_lt_two_pow (Nat.lt_of_lt_of_le h (Nat.pow_le_pow_right (by decide) (Nat.not_lt.mp hi))), Bool.false_and]
  rw [this]; (first | lia | omega)
theorem vq_or {k₀ : Nat} (h : x < 2 ^ k₀) (k : Q (.int ((x + y * 2 ^ k₀ : Nat) : Int)) σ) : binK .BitOr (.int (x : Int)) (.int ((y * 2 ^ k₀ : Nat) : Int)) Q σ := vc_bor (by rw [or_parts h]; exact k)
theorem vq_ior {k₀ : Nat} (h : x < 2 ^ k₀) (k : Q (.int ((x + y * 2 ^ k₀ : Nat) : Int)) σ) : augK .BitOr (.int (x : Int)) (.int ((y * 2 ^ k₀ : Nat) : Int)) Q σ := vc_ibor (by rw [or_parts h]; exact k)
theorem vq_iadd (k : Q (.int ((x + y : Nat) : Int)) σ) : augK .Add (.int (x : Int)) (.int (y : Int)) Q σ := vc_iadd (by rw [← Int.natCast_add]; exact k)
theorem vq_isub (h : y ≤ x) (k : Q (.int ((x - y : Nat) : Int)) σ) : augK .Sub (.int (x : Int)) (.int (y : Int)) Q σ := vc_isub (by rw [← Int.ofNat_sub h]; exact k)
theorem vq_ishr (k : Q (.int ((x / 2 ^ y : Nat) : Int)) σ) : augK .RShift (.int (x : Int)) (.int (y : Int)) Q σ := vc_ishr (by (first | lia | omega)) (by rw [Int.toNat_natCast]; rw [Int.natCast_ediv, Int.natCast_pow] at k; exact k)
theorem vq_eq (k : QB (decide (x = y)) σ) : cmpC .Eq (.int (x : Int)) (.int (y : Int)) QB σ := vc_eq (by
  rw [show ((x : Int) == (y : Int)) = decide (x = y) by rw [Bool.eq_iff_iff]; simp; (first | lia | omega)]; exact k)
theorem vq_ne (k : QB (decide (x ≠ y)) σ) : cmpC .NotEq (.int (x : Int)) (.int (y : Int)) QB σ := vc_ne (by
  rw [show ((x : Int) != (y : Int)) = decide (x ≠ y) by rw [Bool.eq_iff_iff]; simp; (first | lia | omega)]; exact k)
theorem vq_lt (k : QB (decide (x < y)) σ) : cmpC .Lt (.int (x : Int)) (.int (y : Int)) QB σ := vc_lt (by rw [show decide ((x : Int) < (y : Int)) = decide (x < y) by rw [Bool.eq_iff_iff]; simp]; exact k)
theorem vq_le (k : QB (decide (x ≤ y)) σ) : cmpC .LtE (.int (x : Int)) (.int (y : Int)) QB σ := vc_le (by rw [show decide ((x : Int) ≤ (y : Int)) = decide (x ≤ y) by rw [Bool.eq_iff_iff]; simp]; exact k)
theorem vq_gt (k : QB (decide (y < x)) σ) : cmpC .Gt (.int (x : Int)) (.int (y : Int)) QB σ := vc_gt (by rw [show decide ((y : Int) < (x : Int)) = decide (y < x) by rw [Bool.eq_iff_iff]; simp]; exact k)
theorem vq_ge (k : QB (decide (y ≤ x)) σ) : cmpC .GtE (.int (x : Int)) (.int (y : Int)) QB σ := vc_ge (by rw [show decide ((y : Int) ≤ (x : Int)) = decide (y ≤ x) by rw [Bool.eq_iff_iff]; simp]; exact k)
theorem vq_idx (h1 : H.rd a = some (LN ds)) (h3 : x < ds.length) (h4 : ds.length ≤ 1000000) (k : Q (.int ((ds.getD x 0 : Nat) : Int)) ⟨l, H⟩) : idxK (.ref a) (.int (x : Int)) Q ⟨l, H⟩ :=
  vn_idx h1 (by (first | lia | omega)) (by (first | lia | omega)) h4 k
theorem vq_last (h1 : H.rd a = some (LN ds)) (h3 : 0 < ds.length) (h4 : ds.length ≤ 1000000) (k : Q (.int ((ds.getD (ds.length - 1) 0 : Nat) : Int)) ⟨l, H⟩) : idxK (.ref a) (.int (-((1 : Nat) : Int))) Q ⟨l, H⟩ :=
  vn_idxN h1 (by (first | lia | omega)) (by (first | lia | omega)) h4 (by
    rw [show (-((1 : Nat) : Int) + (ds.length : Int)).toNat = ds.length - 1 by (first | lia | omega)]; exact k)
theorem vq_cutT (h1 : H.rd a = some (LN ds)) (h2 : ds.length ≤ 1000000) (k : newK (LN (ds.take x)) Q ⟨l, H⟩) : cutK (.ref a) .none (.int (x : Int)) Q ⟨l, H⟩ := vn_cutT h1 h2 (by (first | lia | omega)) (by rw [Int.toNat_natCast]; exact k)
theorem vq_cutF (h1 : H.rd a = some (LN ds)) (h2 : ds.length ≤ 1000000) (k : newK (LN (ds.drop x)) Q ⟨l, H⟩) : cutK (.ref a) (.int (x : Int)) .none Q ⟨l, H⟩ := vn_cutF h1 h2 (by (first | lia | omega)) (by rw [Int.toNat_natCast]; exact k)
theorem vq_rep {d : Nat} (h1 : H.rd a = some (LN [d])) (h3 : x ≤ 1000000) (k : newK (LN (List.replicate x d)) Q ⟨l, H⟩) : binK .Mult (.ref a) (.int (x : Int)) Q ⟨l, H⟩ := vn_rep h1 (by (first | lia | omega)) (by (first | lia | omega)) (by rw [Int.toNat_natCast]; exact k)
theorem vq_list0 (k : newK (LN []) Q σ) : ([] : List AV).length ≤ 1000000 ∧ newK (.list []) Q σ := ⟨by decide, k⟩
theorem vq_list1 (k : newK (LN [x]) Q σ) : [AV.int (x : Int)].length ≤ 1000000 ∧ newK (.list [AV.int (x : Int)]) Q σ := ⟨by simp, k⟩
theorem vq_tup2 {u v : AV} (k : newK (.tup [u, v]) Q σ) : [u, v].length ≤ 1000000 ∧ newK (.tup [u, v]) Q σ := ⟨by simp, k⟩
theorem vq_list3 {u v z : AV} (k : newK (.list [u, v, z]) Q σ) : [u, v, z].length ≤ 1000000 ∧ newK (.list [u, v, z]) Q σ := ⟨by simp, k⟩
theorem vq_list4 {u v z z' : AV} (k : newK (.list [u, v, z, z']) Q σ) : [u, v, z, z'].length ≤ 1000000 ∧ newK (.list [u, v, z, z']) Q σ := ⟨by simp, k⟩
theorem vq_bits (k : Q (.int ((bl x : Nat) : Int)) σ) : bitsK (.int (x : Int)) Q σ := by
  show Q (.int (Builtin.Int.intBits (x : Int))) σ
  have e : Builtin.Int.intBits (x : Int) = bl x := by
    unfold Builtin.Int.intBits bl
    by_cases h : x = 0
    · subst h; rfl
    · rw [if_neg (by simpa using h), if_neg h]; rfl
  rw [e]; exact k
theorem vq_int {x : Int} (k : Q (.int x) σ) : intcK [.int x] Q σ := k
theorem vq_max (k : Q (.int ((max x y : Nat) : Int)) σ) : maxK [.int (x : Int), .int (y : Int)] Q σ := by
  show Q (.int (if (y : Int) > (x : Int) then (y : Int) else (x : Int))) σ
  have e : (if (y : Int) > (x : Int) then (y : Int) else (x : Int)) = ((max x y : Nat) : Int) := by split <;> (first | lia | omega)
  rw [e]; exact k
theorem vq_max0 {x : Int} (k : Q (.int ((x.toNat : Nat) : Int)) σ) : maxK [.int x, .int ((0 : Nat) : Int)] Q σ := by
  show Q (.int (if ((0 : Nat) : Int) > x then ((0 : Nat) : Int) else x)) σ
  have e : (if ((0 : Nat) : Int) > x then ((0 : Nat) : Int) else x) = ((x.toNat : Nat) : Int) := by split <;> (first | lia | omega)
  rw [e]; exact k
theorem vq_min (k : Q (.int ((min x y : Nat) : Int)) σ) : minK [.int (x : Int), .int (y : Int)] Q σ := by
  show Q (.int (if (y : Int) < (x : Int) then (y : Int) else (x : Int))) σ
  have e : (if (y : Int) < (x : Int) then (y : Int) else (x : Int)) = ((min x y : Nat) : Int) := by split <;> (first | lia | omega)
  rw [e]; exact k
theorem vq_abs {x : Int} (k : Q (.int ((x.natAbs : Nat) : Int)) σ) : absK [.int x] Q σ := by
  show Q (.int (if x < 0 then -x else x)) σ
  have e : (if x < 0 then -x else x) = ((x.natAbs : Nat) : Int) := by split <;> (first | lia | omega)
  rw [e]; exact k
theorem vq_cmpLt (k : QB (decide (x < y)) σ) : cmpC .Lt (cmpI x y) (.int ((0 : Nat) : Int)) QB σ := by
  rcases Nat.lt_trichotomy x y with h | h | h
  · rw [cmpI_lt h]; exact vc_lt (by simpa [h] using k)
  · subst h; rw [cmpI_eq]; exact vc_lt (by simpa using k)
  · rw [cmpI_gt h]; exact vc_lt (by simpa [show ¬ x < y by (first | lia | omega)] using k)
theorem vq_cmpGe (k : QB (decide (y ≤ x)) σ) : cmpC .GtE (cmpI x y) (.int ((0 : Nat) : Int)) QB σ := by
  rcases Nat.lt_trichotomy x y with h | h | h
  · rw [cmpI_lt h]; exact vc_ge (by simpa [show ¬ y ≤ x by (first | lia | omega)] using k)
  · subst h; rw [cmpI_eq]; exact vc_ge (by simpa using k)
  · rw [cmpI_gt h]; exact vc_ge (by simpa [Nat.le_of_lt h] using k)
theorem vq_modI {x : Int} (h1 : 0 < y) (k : Q (.int ((x % (y : Int)).toNat : Int)) σ) : binK .Mod (.int x) (.int (y : Int)) Q σ := vc_mod (by (first | lia | omega)) (by
  rw [Int.toNat_of_nonneg (Int.emod_nonneg _ (by (first | lia | omega)))] at k; exact k)
theorem vq_lowbit (h : 0 < x) (k : Q (.int ((2 ^ tz x : Nat) : Int)) σ) : binK .BitAnd (.int (x : Int)) (.int (-(x : Int))) Q σ := vc_band (by
  obtain ⟨q, hq⟩ := tz_spec h
  have e : (x : Int) = 2 ^ tz x * (2 * (q : Int) + 1) := by
    have := congrArg (fun (n : Nat) => (n : Int)) hq
    simpa using this
  have e2 : Builtin.bitAnd (x : Int) (-(x : Int)) = 2 ^ tz x := by
    have := kbt_low (tz x) (q : Int)
    rw [← e] at this
    exact this
  rw [e2]; rw [Int.natCast_pow] at k; exact k)
noncomputable def Sb (H H' : Hp) : Prop := ∀ a ao, H.rd a = some ao → H'.rd a = some ao
theorem Sb.refl {H : Hp} : Sb H H := fun _ _ e => e
theorem Sb.trans {H H' H'' : Hp} (x : Sb H H') (y : Sb H' H'') : Sb H H'' := fun a ao e => y a ao (x a ao e)
theorem Hp.Sub.sb {H H' : Hp} (x : H.Sub H') : Sb H H' := x.1
theorem Sb.none' {H H' : Hp} {a : Addr} (s : Sb H H') (h : H'.rd a = .none) : H.rd a = .none := none_of fun x e => by have := s _ _ e; rw [h] at this; cases this
theorem Sb.turned {H₀ H H' : Hp} {f : Addr} {z : AObj} (s : Sb H₀ H) (h : H₀.rd f = .none) (t : Turned H f z H') : Sb H₀ H' :=
  fun a ao e => (t.off a fun q => by subst q; rw [h] at e; cases e).trans (s a ao e)
theorem Sb.get {H H' : Hp} {a : Addr} {y : AObj} (s : Sb H H') (h : H.rd a = some y) : H'.rd a = some y := s _ _ h
noncomputable def SubBut (f : Addr) (H H' : Hp) : Prop := (∀ a ao, a ≠ f → H.rd a = some ao → H'.rd a = some ao) ∧ (∀ a, H.own a → H'.own a) ∧ ∀ a, H'.own a → H.own a ∨ (a ≠ f ∧ H.rd a = .none)
theorem Turned.but {H H' : Hp} {f : Addr} {z : AObj} (t : Turned H f z H') : SubBut f H H' := ⟨fun a ao n e => (t.off a n).trans e, fun a e => (t.own a).mpr e, fun a e => .inl ((t.own a).mp e)⟩
theorem Hp.Sub.but {H H' : Hp} {f : Addr} (t : H.Sub H') (h : H.own f) : SubBut f H H' := ⟨fun a ao _ e => t.1 a ao e, t.2.1, fun a e => (Classical.em (a = f)).elim (fun z => .inl (z ▸ h)) fun z => (t.2.2 a e).imp id fun q => ⟨z, q⟩⟩
theorem SubBut.refl {f : Addr} {H : Hp} : SubBut f H H := ⟨fun _ _ _ e => e, fun _ e => e, fun _ e => .inl e⟩
theorem SubBut.trans {f : Addr} {H H' H'' : Hp} (x : SubBut f H H') (y : SubBut f H' H'') : SubBut f H H'' := ⟨fun a ao n e => y.1 a ao n (x.1 a ao n e), fun a e => y.2.1 a (x.2.1 a e), fun a e => (y.2.2 a e).elim (x.2.2 a) fun ⟨n, e⟩ => .inr ⟨n, none_of fun z q => by have := x.1 _ _ n q; rw [e] at this; cases this⟩⟩
theorem Hp.Sub.bothBut {f : Addr} {H₀ H H' : Hp} (s : H₀.Sub H) (h : H₀.rd f = .none) (t : SubBut f H H') : H₀.Sub H' :=
  ⟨fun a ao e => t.1 a ao (fun q => by subst q; rw [h] at e; cases e) (s.1 a ao e), fun a e => t.2.1 a (s.2.1 a e), fun a e => (t.2.2 a e).elim (s.2.2 a) fun ⟨_, e⟩ => .inr (s.sb.none' e)⟩
theorem Hp.back_sub {H₀ H : Hp} (s : Sb H₀ H) : H₀.Sub (H.back H₀) := ⟨s, fun a e => .inr e, fun a e => e.elim (fun e => .inr e.2) .inl⟩
noncomputable def RetL (H : Hp) (ds : List Nat) (Q : AV → Hp → Prop) : Prop := ∀ r H', H.Sub H' → H.rd r = .none → H'.rd r = some (LN ds) → H'.own r → Q (.ref r) H'
noncomputable def RetO (H : Hp) (ds : List Nat) (Q : AV → Hp → Prop) : Prop := ∀ r H', H.Sub H' → H'.rd r = some (LN ds) → Q (.ref r) H'
noncomputable def RetV (H : Hp) (v : AV) (Q : AV → Hp → Prop) : Prop := ∀ H', H.Sub H' → Q v H'
theorem RetL.done {H₀ H : Hp} {ds : List Nat} {Q : AV → Hp → Prop} {r : Addr} (k : RetL H₀ ds Q) (s : Sb H₀ H) (n : H₀.rd r = .none) (e : H.rd r = some (LN ds)) (o : H.own r) : Q (.ref r) (H.back H₀) := k r _ (Hp.back_sub s) n e (.inl ⟨o, n⟩)
theorem RetO.done {H₀ H : Hp} {ds : List Nat} {Q : AV → Hp → Prop} {r : Addr} (k : RetO H₀ ds Q) (s : Sb H₀ H) (e : H.rd r = some (LN ds)) : Q (.ref r) (H.back H₀) := k r _ (Hp.back_sub s) e
theorem RetV.done {H₀ H : Hp} {v : AV} {Q : AV → Hp → Prop} (k : RetV H₀ v Q) (s : Sb H₀ H) : Q v (H.back H₀) := k _ (Hp.back_sub s)
theorem RetL.o {H : Hp} {ds : List Nat} {Q : AV → Hp → Prop} (k : RetO H ds Q) : RetL H ds Q := fun r H' s n e o => k r H' s e
theorem vc_mkL {ds : List Nat} {Q : AV → Hp → Prop} (k : ∀ r H', H.Sub H' → H.rd r = .none → H'.rd r = some (LN ds) → H'.own r → Q (.ref r) H') : RetL H ds Q := k
theorem vc_mkO {ds : List Nat} {Q : AV → Hp → Prop} (k : ∀ r H', H.Sub H' → H'.rd r = some (LN ds) → Q (.ref r) H') : RetO H ds Q := k
theorem vc_mkV {v : AV} {Q : AV → Hp → Prop} (k : ∀ H', H.Sub H' → Q v H') : RetV H v Q := k
theorem vq_app {H₀ : Hp} {f : Addr} {d : Nat} (h1 : H.rd f = some (LN ds)) (h2 : H.own f) (hf : H₀.rd f = none) (s : Sb H₀ H) (h3 : ds.length ≤ 1000000) (k : ∀ H', Sb H₀ H' → H'.rd f = some (LN (ds ++ [d])) → H'.own f → QF .next ⟨l, H'⟩) : appK (.ref f) (.int (d : Int)) QF ⟨l, H⟩ :=
  vn_app h1 h2 h3 rfl fun H' t => k H' (s.turned hf t) t.at_ ((t.own f).mpr h2)
theorem vq_appI {H₀ : Hp} {f : Addr} {z : Int} (hz : 0 ≤ z) (h1 : H.rd f = some (LN ds)) (h2 : H.own f) (hf : H₀.rd f = .none) (s : Sb H₀ H) (h3 : ds.length ≤ 1000000) (k : ∀ H', Sb H₀ H' → H'.rd f = some (LN (ds ++ [z.toNat])) → H'.own f → QF .next ⟨l, H'⟩) : appK (.ref f) (.int z) QF ⟨l, H⟩ := by
  rw [← Int.toNat_of_nonneg hz]
  refine vq_app h1 h2 hf s h3 fun H' a b c => k H' a b c
theorem vq_set {H₀ : Hp} {f : Addr} {d : Nat} (h1 : H.rd f = some (LN ds)) (h2 : H.own f) (hb : SubBut f H₀ H) (h3 : x < ds.length) (h5 : ds.length ≤ 1000000) (k : ∀ H', SubBut f H₀ H' → H'.rd f = some (LN (ds.set x d)) → H'.own f → QF .next ⟨l, H'⟩) : setK (.ref f) (.int (x : Int)) (.int (d : Int)) QF ⟨l, H⟩ :=
  vn_set h1 h2 (by (first | lia | omega)) (by (first | lia | omega)) h5 rfl fun H' t => k H' (hb.trans t.but) (by rw [t.at_, Int.toNat_natCast]) ((t.own f).mpr h2)
noncomputable def RetP (H : Hp) (ds es : List Nat) (Q : AV → Hp → Prop) : Prop := ∀ t p q H', H.Sub H' → H'.rd t = some (.tup [.ref p, .ref q]) → H'.rd p = some (LN ds) → H'.rd q = some (LN es) → Q (.ref t) H'
theorem RetP.done {H₀ H : Hp} {ds es : List Nat} {Q : AV → Hp → Prop} {t p q : Addr} (k : RetP H₀ ds es Q) (s : Sb H₀ H) (e1 : H.rd t = some (.tup [.ref p, .ref q])) (e2 : H.rd p = some (LN ds)) (e3 : H.rd q = some (LN es)) : Q (.ref t) (H.back H₀) := k t p q _ (Hp.back_sub s) e1 e2 e3
theorem vc_mkP {ds es : List Nat} {Q : AV → Hp → Prop} (k : ∀ t p q H', H.Sub H' → H'.rd t = some (.tup [.ref p, .ref q]) → H'.rd p = some (LN ds) → H'.rd q = some (LN es) → Q (.ref t) H') : RetP H ds es Q := k
theorem vq_tup1 {u v : AV} (h1 : H.rd a = some (.tup [u, v])) (k : Q v ⟨l, H⟩) : idxK (.ref a) (.int ((1 : Nat) : Int)) Q ⟨l, H⟩ := vc_idxT h1 rfl (by (first | lia | omega)) k
noncomputable def rgU (a n : Nat) : List AV := (List.range n).map fun (i : Nat) => AV.int ((a + i : Nat) : Int)
noncomputable def rgD (a n : Nat) : List AV := (List.range n).map fun (i : Nat) => AV.int ((a + n - 1 - i : Nat) : Int)
theorem rgU_get {a n j : Nat} {v : AV} (h : (rgU a n)[j]? = some v) : j < n ∧ v = .int ((a + j : Nat) : Int) := by
  by_cases hj : j < n
  · simp [rgU, hj] at h; exact ⟨hj, h.symm⟩
  · simp [rgU, Nat.not_lt.mp hj] at h
theorem rgD_get {a n j : Nat} {v : AV} (h : (rgD a n)[j]? = some v) : j < n ∧ v = .int ((a + n - 1 - j : Nat) : Int) := by
  by_cases hj : j < n
  · simp [rgD, hj] at h; exact ⟨hj, h.symm⟩
  · simp [rgD, Nat.not_lt.mp hj] at h
theorem rgU_length {a n : Nat} : (rgU a n).length = n := by simp [rgU]
theorem rgD_length {a n : Nat} : (rgD a n).length = n := by simp [rgD]
variable {QL : List AV → Stt → Prop} {Wb : Pr AF}
theorem vq_range1 (h : x < 2 ^ 60) (k : QL (rgU 0 x) σ) : rangeI [.int (x : Int)] QL σ := by
  refine ⟨⟨by (first | lia | omega), by (first | lia | omega)⟩, ?_⟩
  have e : rgL 0 1 (x : Int).toNat = rgU 0 x := by
    unfold rgL rgU; rw [Int.toNat_natCast]
    refine List.map_congr_left fun i _ => ?_
    congr 1; (first | lia | omega)
  rw [e]; exact k
theorem vq_range2 (h : x < 2 ^ 60) (h' : y < 2 ^ 60) (k : QL (rgU x (y - x)) σ) : rangeI [.int (x : Int), .int (y : Int)] QL σ := by
  refine ⟨⟨by (first | lia | omega), by (first | lia | omega), by (first | lia | omega), by (first | lia | omega)⟩, ?_⟩
  have e : rgL x 1 ((y : Int) - x).toNat = rgU x (y - x) := by
    unfold rgL rgU
    rw [show ((y : Int) - x).toNat = y - x by (first | lia | omega)]
    refine List.map_congr_left fun i _ => ?_
    congr 1; (first | lia | omega)
  rw [e]; exact k
theorem vq_rangeD {p q : Int} (a n : Nat) (h1 : p = ((a + n : Nat) : Int) - 1) (h2 : q = (a : Int) - 1) (h : a + n < 2 ^ 60) (k : QL (rgD a n) σ) : rangeI [.int p, .int q, .int (-((1 : Nat) : Int))] QL σ := by
  refine ⟨⟨by (first | lia | omega), by (first | lia | omega), by (first | lia | omega), by (first | lia | omega)⟩, .inl ⟨rfl, ?_⟩⟩
  have e : rgL p (-1) (p - q).toNat = rgD a n := by
    unfold rgL rgD
    rw [show (p - q).toNat = n by (first | lia | omega)]
    refine List.map_congr_left fun i hi => ?_
    have := List.mem_range.mp hi
    congr 1; (first | lia | omega)
  rw [e]; exact k
theorem vq_forU {i a n : Nat} (I : Nat → Stt → Prop) (h0 : I 0 σ) (ht : ∀ j σ', j < n → I j σ' → GenL (fun T => letK i (.int ((a + j : Nat) : Int)) (thenK Wb T) σ') (turnF I QF j)) (he : ∀ σ', I n σ' → QF .next σ') : forK i Wb QF (rgU a n) σ :=
  ⟨I, h0, fun j v σ' hv hI => by obtain ⟨h1, rfl⟩ := rgU_get hv; exact (ht j σ' h1 hI).go, fun σ' hI => he σ' (by rw [rgU_length] at hI; exact hI)⟩
theorem vq_forD {i a n : Nat} (I : Nat → Stt → Prop) (h0 : I 0 σ) (ht : ∀ j σ', j < n → I j σ' → GenL (fun T => letK i (.int ((a + n - 1 - j : Nat) : Int)) (thenK Wb T) σ') (turnF I QF j)) (he : ∀ σ', I n σ' → QF .next σ') : forK i Wb QF (rgD a n) σ :=
  ⟨I, h0, fun j v σ' hv hI => by obtain ⟨h1, rfl⟩ := rgD_get hv; exact (ht j σ' h1 hI).go, fun σ' hI => he σ' (by rw [rgD_length] at hI; exact hI)⟩
theorem LN_get {ds : List Nat} {j : Nat} {v : AV} (h : (ds.map fun (d : Nat) => AV.int (d : Int))[j]? = some v) : j < ds.length ∧ v = .int ((ds.getD j 0 : Nat) : Int) := by
  by_cases hj : j < ds.length
  · simp [hj] at h; refine ⟨hj, ?_⟩; simp [hj, h.symm]
  · simp [Nat.not_lt.mp hj] at h
theorem vq_forL {i : Nat} (h1 : H.rd a = some (LN ds)) (I : Nat → Stt → Prop) (h0 : ∀ H', H'.rd = H.rd → (∀ f, f ≠ a → H.own f → H'.own f) → I 0 ⟨l, H'⟩)
    (ht : ∀ j σ', j < ds.length → I j σ' → GenL (fun T => letK i (.int ((ds.getD j 0 : Nat) : Int)) (thenK Wb T) σ') (turnF I QF j)) (he : ∀ σ', I ds.length σ' → QF .next σ') : listI (.ref a) (fun items => forK i Wb QF items) ⟨l, H⟩ := by
  refine ⟨_, h1, I, h0 _ rfl fun f n o => ⟨n, o⟩, fun j v σ' hv hI => ?_, fun σ' hI => he σ' (by simpa using hI)⟩
  obtain ⟨z, rfl⟩ := LN_get hv
  exact (ht j σ' z hI).go
theorem vq_forR {i : Nat} (h1 : H.rd a = some (LN ds)) (I : Nat → Stt → Prop) (h0 : ∀ H', H'.rd = H.rd → (∀ f, f ≠ a → H.own f → H'.own f) → I 0 ⟨l, H'⟩)
    (ht : ∀ j σ', j < ds.length → I j σ' → GenL (fun T => letK i (.int ((ds.getD (ds.length - 1 - j) 0 : Nat) : Int)) (thenK Wb T) σ') (turnF I QF j)) (he : ∀ σ', I ds.length σ' → QF .next σ') : revI [.ref a] (fun items => forK i Wb QF items) ⟨l, H⟩ := by
  refine ⟨_, h1, I, h0 _ rfl fun f n o => ⟨n, o⟩, fun j v σ' hv hI => ?_, fun σ' hI => he σ' (by simpa using hI)⟩
  rw [← List.map_reverse] at hv
  obtain ⟨z, rfl⟩ := LN_get hv
  have z' : j < ds.length := by simpa using z
  have := (ht j σ' z' hI).go
  have e : ds.reverse.getD j 0 = ds.getD (ds.length - 1 - j) 0 := by
    have y : ds.length - 1 - j < ds.length := by (first | lia | omega)
    simp [z', y]
  rw [e]; exact this
theorem vq_forE {i j : Nat} (h1 : H.rd a = some (LN ds)) (I : Nat → Stt → Prop) (h0 : ∀ H', H'.rd = H.rd → (∀ f, f ≠ a → H.own f → H'.own f) → I 0 ⟨l, H'⟩)
    (ht : ∀ m σ', m < ds.length → I m σ' → GenL (fun T => letsK [i, j] [.int (m : Int), .int ((ds.getD m 0 : Nat) : Int)] (thenK Wb T) σ') (turnF I QF m)) (he : ∀ σ', I ds.length σ' → QF .next σ') : enumI i j Wb [.ref a] QF ⟨l, H⟩ := by
  refine ⟨_, h1, I, h0 _ rfl fun f n o => ⟨n, o⟩, fun m v σ' hv hI => ?_, fun σ' hI => he σ' (by simpa using hI)⟩
  obtain ⟨z, rfl⟩ := LN_get hv
  exact (ht m σ' z hI).go
theorem vq_while {Wc : Pr Bool} (I : Nat → Stt → Prop) (n : Nat) (h0 : I n σ) (ht : ∀ n σ', I n σ' → GenL (fun T => Wc (fun b σ₁ => iteK b (Wb T σ₁) (QF .next σ₁)) σ') (loopF I QF n)) : whileK Wc Wb QF σ := ⟨I, ⟨n, h0⟩, fun n σ' h => (ht n σ' h).go⟩
theorem vc_swap2 {i j : Nat} {a b : AV} {σ : Stt} (k : letsK [j, i] [b, a] QF σ) : ([a, b].length = [i, j].length ∧ [a, b].length ≤ 1000000) ∧ letsK [i, j].reverse [a, b].reverse QF σ := ⟨⟨rfl, by simp⟩, k⟩
theorem vc_swap3 {i j m : Nat} {a b c : AV} {σ : Stt} (k : letsK [m, j, i] [c, b, a] QF σ) : ([a, b, c].length = [i, j, m].length ∧ [a, b, c].length ≤ 1000000) ∧ letsK [i, j, m].reverse [a, b, c].reverse QF σ := ⟨⟨rfl, by simp⟩, k⟩
theorem vc_dir3 {i j m : Nat} {a b c : AV} {σ : Stt} (k : letsK [i, j, m] [a, b, c] QF σ) : ([a, b, c].length = [i, j, m].length ∧ [a, b, c].length ≤ 1000000) ∧ letsK [i, j, m] [a, b, c] QF σ := ⟨⟨rfl, by simp⟩, k⟩
theorem vc_seq {W Wb : Pr AF} {σ : Stt} (k : W (thenK Wb QF) σ) : seqK W Wb QF σ := k
theorem vc_iteE {Wc : Pr Bool} {Wt We : Pr AV} {σ : Stt} (k : Wc (fun b σ₁ => iteK b (Wt Q σ₁) (We Q σ₁)) σ) : iteE Wc Wt We Q σ := k
theorem vc_cut {W Wb : Pr AF} {σ : Stt} (J : Stt → Prop) (h1 : ∀ X : AF → Stt → Prop, (∀ σ', J σ' → X .next σ') → (∀ v σ', QF (.ret v) σ' → X (.ret v) σ') → W X σ) (h2 : ∀ σ', J σ' → Wb QF σ') : seqK W Wb QF σ :=
  h1 (thenK Wb QF) (fun σ' h => h2 σ' h) (fun v σ' h => h)
theorem vc_iteCut {Wc : Pr Bool} {Wt We : Pr AV} {σ : Stt} (J : AV → Stt → Prop) (h1 : ∀ X : AV → Stt → Prop, (∀ v σ', J v σ' → X v σ') → Wc (fun b σ₁ => iteK b (Wt X σ₁) (We X σ₁)) σ) (h2 : ∀ v σ', J v σ' → Q v σ') : iteE Wc Wt We Q σ := h1 Q h2
theorem vq_turn {I : Nat → Stt → Prop} {j : Nat} (k : I (j + 1) σ) : turnF I QF j .next σ := k
theorem vq_turnC {I : Nat → Stt → Prop} {j : Nat} (k : I (j + 1) σ) : turnF I QF j .cont σ := k
theorem vq_turnR {I : Nat → Stt → Prop} {j : Nat} (k : QF (.ret v) σ) : turnF I QF j (.ret v) σ := k
theorem vq_loop {I : Nat → Stt → Prop} {n : Nat} (m : Nat) (h : m < n) (k : I m σ) : loopF I QF n .next σ := ⟨m, h, k⟩
theorem vq_loopC {I : Nat → Stt → Prop} {n : Nat} (m : Nat) (h : m < n) (k : I m σ) : loopF I QF n .cont σ := ⟨m, h, k⟩
theorem vq_loopR {I : Nat → Stt → Prop} {n : Nat} (k : QF (.ret v) σ) : loopF I QF n (.ret v) σ := k
theorem vq_tup {ts : Addr} {xs : List AV} {is : List Nat} (h : H.rd ts = some (.tup xs)) (hl : xs.length = is.length) (k : letsK is xs QF ⟨l, H⟩) : tupK is (.ref ts) QF ⟨l, H⟩ := ⟨xs, h, hl, k⟩
theorem vq_expr {P : Prop} (k : P) : AV.none = AV.none ∧ P := ⟨rfl, k⟩
end
structure CellsRd (H : Hp) (cl : List (Str × Addr)) (cavs : List AV) : Prop where
  len : cavs.length = cl.length
  at_ : ∀ (i : Nat) (x : Str) (c : Addr), cl[i]? = some (x, c) → ∃ av, cavs[i]? = some av ∧ H.rd c = some (.cell av) ∧ H.own c
noncomputable def inC (cl : List (Str × Addr)) (a : Addr) : Prop := ∃ x, (x, a) ∈ cl
open Classical in
noncomputable def Hp.hide (H : Hp) (cl : List (Str × Addr)) : Hp := ⟨fun a => if inC cl a then none else H.rd a, fun a => ¬ inC cl a ∧ H.own a⟩
open Classical in
noncomputable def Hp.unhide (H H₀ : Hp) (cl : List (Str × Addr)) : Hp := ⟨fun a => if inC cl a then H₀.rd a else H.rd a, fun a => (H.own a ∧ H₀.rd a = none) ∨ H₀.own a⟩
noncomputable def retC (H₀ : Hp) (cl : List (Str × Addr)) (n : Nat) (cavs : List AV) (Q : AV → Hp → Prop) (f : AF) (σ : Stt) : Prop := match f with
  | .ret v => (∀ i av, cavs[i]? = some av → σ.loc[n + i]? = some (some av)) ∧ Q v (σ.H.unhide H₀ cl)
  | .next => (∀ i av, cavs[i]? = some av → σ.loc[n + i]? = some (some av)) ∧ Q .none (σ.H.unhide H₀ cl)
  | _ => False
theorem lookupV {x : Str} {v : Value} : ∀ {l : List (Str × Value)}, (l.map (·.1)).Nodup → (x, v) ∈ l → l.lookup x = some v
  | (y, u) :: r, hn, hm => by
    obtain ⟨n1, n2⟩ := List.nodup_cons.mp hn
    rw [List.lookup_cons]
    rcases List.mem_cons.mp hm with e | hr
    · cases e; simp
    · have : (x == y) = false := by
        rw [beq_eq_false_iff_ne]; rintro rfl
        exact n1 (by have := List.mem_map_of_mem (f := fun (z : Str × Value) => z.1) hr; exact this)
      rw [this]; exact lookupV n2 hr
theorem clo_core {g : Gs} {D : Nat} {f : Addr} {args : List AV} {H : Hp} {Q : AV → Hp → Prop} {fd : FuncData} {cl : List (Str × Addr)} {cavs : List AV} {A : Around} {s : Shared} {vals : List Value} (ok : g.Ok) (hh : A.handled = none) (hroom : A.depth + (D + 1) < recursionLimit) (hun : A.units + 8 * (D + 1) + 128 < cLine) (hg : HGood g.B noX H s.heap) (hsz : g.B.objs.size ≤ s.heap.objs.size) (hv : VRs vals args)
    (hclo : fd.closure = cl) (hgl : fd.globals = mainGlobals) (hbi : fd.builtins = builtinsNs) (hC : CellsRd H cl cavs) (hap : cl.Pairwise fun x y => x.2 ≠ y.2) (hnd' : (cl.map (·.1)).Nodup)
    (ps more : List Str) (hnd : (ps ++ (cl.map (·.1) ++ more)).Nodup) (hl : ps.length = args.length)
    (hkind : ∀ x ∈ ps, fd.scope.names.lookup x = some .local) (hfree : ∀ x ∈ cl.map (·.1), fd.scope.names.lookup x = some .free ∧ (x == ("__classdict__" : Str)) = false) (hk : fd.scope.kind = .function)
    {h₁ : Heap} {tk : Nat} (hns : h₁.Ns s.heap.objs.size (fun x => (ps.zip vals).reverse.lookup x)) (kk : ∀ b o, s.heap.get? b = some o → h₁.get? b = some o) :
    Fm.Ok ⟨g, D, A.deeper (callEnv fd s.heap.objs.size f), callEnv fd s.heap.objs.size f, ps ++ (cl.map (·.1) ++ more)⟩ ∧
    Gd ⟨g, D, A.deeper (callEnv fd s.heap.objs.size f), callEnv fd s.heap.objs.size f, ps ++ (cl.map (·.1) ++ more)⟩ ⟨args.map some ++ (cavs.map some ++ List.replicate more.length none), H.hide cl⟩ { s with heap := h₁, toks := tk } ∧
    ∀ σ' s' u v, Gd ⟨g, D, A.deeper (callEnv fd s.heap.objs.size f), callEnv fd s.heap.objs.size f, ps ++ (cl.map (·.1) ++ more)⟩ σ' s' → Sp ⟨g, D, A.deeper (callEnv fd s.heap.objs.size f), callEnv fd s.heap.objs.size f, ps ++ (cl.map (·.1) ++ more)⟩ ⟨args.map some ++ (cavs.map some ++ List.replicate more.length none), H.hide cl⟩ { s with heap := h₁, toks := tk } σ' s' →
      (∀ i av, cavs[i]? = some av → σ'.loc[ps.length + i]? = some (some av)) → VR u v → Q v (σ'.H.unhide H cl) → CallPost g H Q s u s' := by
  obtain ⟨pp, loose, mean, mg, mb, T⟩ := ok.T
  have hcells : (callEnv fd s.heap.objs.size f).cells = cl := hclo
  have cal : ∀ x c, (x, c) ∈ cl → ∃ av, H.rd c = some (.cell av) ∧ H.own c := fun x c hm => by
    obtain ⟨i, hi⟩ := List.getElem?_of_mem hm
    obtain ⟨av, _, z1, z2⟩ := hC.at_ i x c hi
    exact ⟨av, z1, z2⟩
  have cne : ∀ x c, (x, c) ∈ cl → s.heap.get? c ≠ none := fun x c hm => by
    obtain ⟨av, z, _⟩ := cal x c hm
    exact (hg.hr _ _ z).1.alive
  have hps : (ps.zip vals).map (·.1) = ps := by rw [List.map_fst_zip]; rw [hl, hv.length]; exact Nat.le_refl _
  have hpsn : ps.Nodup := (List.nodup_append.mp hnd).1
  have fok : Fm.Ok ⟨g, D, A.deeper (callEnv fd s.heap.objs.size f), callEnv fd s.heap.objs.size f, ps ++ (cl.map (·.1) ++ more)⟩ := by
    refine ⟨ok, hh, ?_, ?_, hk, hgl, hbi, hsz, fun c hc => ?_, ?_, hnd⟩
    · show A.depth + 1 + D < recursionLimit; (first | lia | omega)
    · show A.units + 3 + 8 * D + 128 < cLine; (first | lia | omega)
    · rw [hcells] at hc
      obtain ⟨av, z1, z2⟩ := cal c.1 c.2 hc
      refine ⟨(hg.ow _ z2).2, fun q => cne c.1 c.2 hc ?_⟩
      rw [q]; exact fresh_size _
    · show (callEnv fd s.heap.objs.size f).cells.Pairwise _
      rw [hcells]; exact hap
  have exiff : ∀ a, Fm.exm ⟨g, D, A.deeper (callEnv fd s.heap.objs.size f), callEnv fd s.heap.objs.size f, ps ++ (cl.map (·.1) ++ more)⟩ a ↔ (a = s.heap.objs.size ∨ inC cl a) := fun a => by
    show (a = (callEnv fd s.heap.objs.size f).locals ∨ ∃ x, (x, a) ∈ (callEnv fd s.heap.objs.size f).cells) ↔ _
    rw [hcells]; exact Iff.rfl
  have lk : ∀ x c, (x, c) ∈ cl → (callEnv fd s.heap.objs.size f).cells.lookup x = some c := fun x c hm => by
    rw [hcells]; exact lookup_of_mem_nodup hnd' hm
  have fr : ∀ x ∈ cl.map (·.1), (callEnv fd s.heap.objs.size f).kindOf x = some .free ∧ (x == ("__classdict__" : Str)) = false := fun x hx => hfree x hx
  refine ⟨fok, ⟨⟨fun a ao e => ?_, fun a e => ?_, fun b o e => kk b o (hg.bb b o e), fun a e => alive_of kk a (hg.al a e.2)⟩, ⟨_, hns, fun i y av h1 h2 => ?_⟩, fun c hc => ?_⟩, ?_⟩
  · dsimp only [Hp.hide] at e
    split at e
    · cases e
    · rename_i hn
      refine ⟨(hg.hr a ao e).1.keeps (kk a), fun hx => ?_⟩
      rcases (exiff a).mp hx with z | z
      · exact (hg.hr a ao e).1.alive (by rw [z]; exact fresh_size _)
      · exact hn z
  · refine ⟨fun hx => ?_, (hg.ow a e.2).2⟩
    rcases (exiff a).mp hx with z | z
    · exact hg.al a e.2 (by rw [z]; exact fresh_size _)
    · exact e.1 z
  · by_cases hi : i < ps.length
    · have h3 : args[i]? = some av := by
        rw [List.getElem?_append_left (by simpa [← hl] using hi)] at h2
        simpa using h2
      obtain ⟨v, v1, v2⟩ := hv.get i av h3
      have h4 : ps[i]? = some y := by
        have : (ps ++ (cl.map (·.1) ++ more))[i]? = some y := h1
        rwa [List.getElem?_append_left hi] at this
      have hm := zip_mem i y v h4 v1
      refine ⟨v, v2, .inl ⟨hkind y (List.mem_of_getElem? h4), ?_⟩⟩
      have hm2 : (y, v) ∈ (ps.zip vals).reverse := by rw [List.mem_reverse]; exact hm
      have hn2 : ((ps.zip vals).reverse.map (·.1)).Nodup := by
        rw [List.map_reverse, hps]; exact List.pairwise_reverse.mpr (hpsn.imp fun h => Ne.symm h)
      exact lookupV hn2 hm2
    · have hi' : ps.length ≤ i := Nat.not_lt.mp hi
      rw [List.getElem?_append_right (by simpa [← hl] using hi')] at h2
      have h1' : (cl.map (·.1) ++ more)[i - ps.length]? = some y := by
        have : (ps ++ (cl.map (·.1) ++ more))[i]? = some y := h1
        rwa [List.getElem?_append_right hi'] at this
      have el : (args.map some).length = ps.length := by simp [hl]
      rw [el] at h2
      have h5 := init_loc h2
      have hj : i - ps.length < cl.length := by rw [← hC.len]; exact (List.getElem?_eq_some_iff.mp h5).1
      rw [List.getElem?_append_left (by simpa using hj)] at h1'
      simp only [List.getElem?_map, Option.map_eq_some_iff] at h1'
      obtain ⟨⟨x, c⟩, z1, z2⟩ := h1'
      dsimp only at z2; subst z2
      obtain ⟨av', z3, z4, z5⟩ := hC.at_ _ x c z1
      rw [h5] at z3; cases z3
      obtain ⟨v, z6, z7⟩ := (hg.hr _ _ z4).1
      have hm : (x, c) ∈ cl := List.mem_of_getElem? z1
      exact ⟨v, z7, .inr ⟨.inr (fr x (List.mem_map_of_mem (f := (·.1)) hm)), c, lk x c hm, z6.keeps kk⟩⟩
  · have hc' : c ∈ cl := by
      have : c ∈ (callEnv fd s.heap.objs.size f).cells := hc
      rwa [hcells] at this
    obtain ⟨av, z1, _⟩ := cal c.1 c.2 hc'
    obtain ⟨v, z6, z7⟩ := (hg.hr _ _ z1).1
    exact ⟨some v, z6.keeps kk⟩
  · intro σ' s' u v g' st hloc hu hQ
    obtain ⟨⟨h', tk', rfl⟩, st⟩ := st
    have alk : ∀ a, s.heap.get? a ≠ none → h'.get? a ≠ none := fun b e => st.alive b (alive_of kk b e)
    refine ⟨v, σ'.H.unhide H cl, h', tk', rfl, hu, hQ, ⟨fun a ao e => ⟨?_, id⟩, fun a e => ⟨id, e.elim (fun e => (g'.hg.ow a e.1).2) fun e => (hg.ow a e).2⟩, g'.hg.bb, fun a e => e.elim (fun e => g'.hg.al a e.1) fun e => alk a (hg.al a e)⟩, ⟨fun b o e _ n2 => st.keep b o (kk b o e) (fun hx => ?_) (fun z => n2 z.2), alk, fun a e => ?_, fun a e => ?_⟩⟩
    · dsimp only [Hp.unhide] at e
      split at e
      · rename_i hin
        obtain ⟨x, hm⟩ := hin
        obtain ⟨i, hi⟩ := List.getElem?_of_mem hm
        obtain ⟨av, z3, z4, z5⟩ := hC.at_ i x a hi
        rw [z4] at e; cases e
        obtain ⟨m, hm', hl'⟩ := g'.ns
        have hi2 : i < cl.length := (List.getElem?_eq_some_iff.mp hi).1
        have nm : (ps ++ (cl.map (·.1) ++ more))[ps.length + i]? = some x := by
          rw [List.getElem?_append_right (Nat.le_add_right _ _), Nat.add_sub_cancel_left, List.getElem?_append_left (by simpa using hi2)]
          simp [hi]
        obtain ⟨v', q1, q2⟩ := hl' (ps.length + i) x av nm (hloc i av z3)
        refine ⟨v', ?_, q1⟩
        rcases q2 with ⟨q2, _⟩ | ⟨_, c, q3, q4⟩
        · have q5 := (fr x (List.mem_map_of_mem (f := (·.1)) hm)).1
          rw [show (callEnv fd s.heap.objs.size f).kindOf x = _ from q2] at q5; cases q5
        · have q5 := lk x a hm
          have q6 : (callEnv fd s.heap.objs.size f).cells.lookup x = some c := q3
          rw [q6] at q5
          cases q5; exact q4
      · exact (g'.hg.hr a ao e).1
    · rcases (exiff b).mp hx with z | ⟨x, z⟩
      · rw [z, fresh_size] at e; cases e
      · obtain ⟨av, _, z2⟩ := cal x b z
        exact n2 z2
    · rcases e with ⟨e, _⟩ | e
      · rcases st.own a e with z | z
        · exact .inl z.2
        · exact .inr (none_of fun o y => by have := kk a o y; rw [show h₁.get? a = none from z] at this; cases this)
      · exact .inl e
    · dsimp only [Hp.unhide] at e
      split at e
      · exact .inl e
      · rename_i hn
        rcases st.rd a e with z | z
        · dsimp only [Hp.hide] at z
          rw [if_neg hn] at z
          exact .inl z
        · exact .inr (none_of fun o y => by have := kk a o y; rw [show h₁.get? a = none from z] at this; cases this)
structure CloOk (g : Gs) (f : Addr) (args : List AV) (H : Hp) (fd : FuncData) (cl : List (Str × Addr)) (cavs : List AV) (ps more : List Str) : Prop where
  hf : ∃ o, H.rd f = some (.raw o) ∧ o.data = .func fd
  hcode : ∃ c ocd vs t, fd.code = .ref c ∧ H.rd c = some (.raw ocd) ∧ ocd.data = .fields vs ∧ vs[1]? = some (.str fd.qualname t)
  hclo : fd.closure = cl
  hgl : fd.globals = mainGlobals
  hbi : fd.builtins = builtinsNs
  hC : CellsRd H cl cavs
  hap : cl.Pairwise fun x y => x.2 ≠ y.2
  hnd' : (cl.map (·.1)).Nodup
  hnd : (ps ++ (cl.map (·.1) ++ more)).Nodup
  hl : ps.length = args.length
  hkind : ∀ x ∈ ps, fd.scope.names.lookup x = some .local
  hfree : ∀ x ∈ cl.map (·.1), fd.scope.names.lookup x = some .free ∧ (x == ("__classdict__" : Str)) = false
  hcell : ∀ x ∈ fd.scope.names, x.2 ≠ .cell
  hbind : ∀ vs, VRs vs args → bindArgs fd ⟨vs, []⟩ = pure (ps.zip vs)
  hco : fd.scope.isCoroutine = false
  hgen : fd.scope.isGenerator = false
  hk : fd.scope.kind = .function
noncomputable def Hp.made (H : Hp) (fa c' P : Addr) (fo co tb : Obj) : Hp := ⟨fun a => if a = fa then some (.raw fo) else if a = c' then some (.raw co) else if a = P then some (.raw tb) else H.rd a, H.own⟩
theorem made_ok {F : Fm} (ok : F.Ok) {σ : Stt} {s : Shared} (hg : Gd F σ s) {P c' : Addr} {tb₀ tb fo co : Obj} {h' : Heap} {tk : Nat} (hP : σ.H.rd P = some (.raw tb₀)) (hPo : σ.H.own P) (hx : Heap.ExtBut P s.heap h') (hge : s.heap.objs.size ≤ c') (hlt : c' < h'.objs.size) (hco : h'.get? c' = some co) (htb : h'.get? P = some tb) (hfree : fo.isFreed = false) :
    Gd F ⟨σ.loc, σ.H.made h'.objs.size c' P fo co tb⟩ { s with heap := h'.push fo, toks := tk } ∧ Sp F σ s ⟨σ.loc, σ.H.made h'.objs.size c' P fo co tb⟩ { s with heap := h'.push fo, toks := tk } ∧
    σ.H.rd h'.objs.size = none ∧ σ.H.rd c' = none ∧ ¬ σ.H.own h'.objs.size ∧ ¬ σ.H.own c' ∧ h'.objs.size ≠ c' ∧ h'.objs.size ≠ P ∧ c' ≠ P := by
  have hPal : s.heap.get? P = some tb₀ := (hg.hg.hr _ _ hP).1
  have hPs : P < s.heap.objs.size := Heap.lt_size hPal
  have fresh : ∀ a, s.heap.objs.size ≤ a → s.heap.get? a = none := fun a h => none_of fun o q => absurd (Heap.lt_size q) (Nat.not_lt.mpr h)
  have hsz : s.heap.objs.size ≤ h'.objs.size := Nat.le_of_lt (Nat.lt_of_le_of_lt hge hlt)
  have f1 := fresh _ hge
  have f2 := fresh _ hsz
  have kk : ∀ b o, b ≠ P → s.heap.get? b = some o → (h'.push fo).get? b = some o := fun b o n e => Heap.get?_push_of_some _ (hx b o n e)
  have n1 : h'.objs.size ≠ c' := Nat.ne_of_gt hlt
  have n2 : h'.objs.size ≠ P := Nat.ne_of_gt (Nat.lt_of_lt_of_le hPs hsz)
  have n3 : c' ≠ P := Nat.ne_of_gt (Nat.lt_of_lt_of_le hPs hge)
  have r1 : σ.H.rd h'.objs.size = none := none_of fun ao z => absurd f2 (rd_alive hg z)
  have r2 : σ.H.rd c' = none := none_of fun ao z => absurd f1 (rd_alive hg z)
  have gfo : (h'.push fo).get? h'.objs.size = some fo := Heap.get?_push_size _ hfree
  have gco : (h'.push fo).get? c' = some co := Heap.get?_push_of_some _ hco
  have gtb : (h'.push fo).get? P = some tb := Heap.get?_push_of_some _ htb
  obtain ⟨nPx, nPB⟩ := hg.hg.ow P hPo
  have isc : ∀ y c v, (y, c) ∈ F.env.cells → s.heap.IsCell c v → (h'.push fo).IsCell c v := fun y c v hm ⟨o, ho, hd⟩ => ⟨o, kk _ _ (fun e => nPx (.inr ⟨y, e ▸ hm⟩)) ho, hd⟩
  refine ⟨⟨⟨fun a ao e => ?_, hg.hg.ow, fun b o e => kk b o (fun z => by rw [z, nPB] at e; cases e) (hg.hg.bb b o e), fun a e => ?_⟩, ?_, fun c hc => ?_⟩, ⟨⟨_, _, rfl⟩, ⟨fun b o e m1 m2 => kk b o (fun z => m2 (z ▸ hPo)) e, fun b e => ?_, fun _ e => .inl e, fun a e => ?_⟩⟩, r1, r2, fun z => hg.hg.al _ z f2, fun z => hg.hg.al _ z f1, n1, n2, n3⟩
  · dsimp only [Hp.made] at e
    split at e
    · rename_i z; cases e; subst z; exact ⟨gfo, fun hx => exm_alive hg hx f2⟩
    · split at e
      · rename_i z; cases e; subst z; exact ⟨gco, fun hx => exm_alive hg hx f1⟩
      · split at e
        · rename_i z; cases e; subst z; exact ⟨gtb, nPx⟩
        · rename_i z
          exact ⟨(hg.hg.hr a ao e).1.keeps fun o q => kk _ _ z q, (hg.hg.hr a ao e).2⟩
  · by_cases z : a = P
    · rw [z]; exact some_ne gtb
    · obtain ⟨o, q⟩ := Option.ne_none_iff_exists'.mp (hg.hg.al a e)
      exact some_ne (kk a o z q)
  · obtain ⟨m, hm, hl⟩ := hg.ns
    refine ⟨m, hm.at' fun o e => kk _ _ (fun z => nPx (.inl z.symm)) e, fun i y av h1 h2 => ?_⟩
    obtain ⟨v, q1, q2⟩ := hl i y av h1 h2
    refine ⟨v, q1, ?_⟩
    rcases q2 with q2 | ⟨b1, c, b2, b3⟩
    · exact .inl q2
    · exact .inr ⟨b1, c, b2, isc _ _ _ (mem_of_lookup b2) b3⟩
  · obtain ⟨v, q⟩ := hg.cells c hc
    exact ⟨v, isc c.1 _ _ hc q⟩
  · by_cases z : b = P
    · rw [z]; exact some_ne gtb
    · obtain ⟨o, q⟩ := Option.ne_none_iff_exists'.mp e
      exact some_ne (kk b o z q)
  · dsimp only [Hp.made] at e
    split at e
    · rename_i z; rw [z]; exact .inr f2
    · split at e
      · rename_i z; rw [z]; exact .inr f1
      · split at e
        · rename_i z; rw [z, hP]; exact .inl (by intro q; cases q)
        · exact .inl e
theorem made_but {H : Hp} {fa c' P : Addr} {fo co tb : Obj} (r1 : H.rd fa = none) (r2 : H.rd c' = none) : SubBut P H (H.made fa c' P fo co tb) := by
  refine ⟨fun a ao n e => ?_, fun a e => e, fun a e => .inl e⟩
  show (if a = fa then _ else if a = c' then _ else if a = P then _ else H.rd a) = _
  rw [if_neg (fun z => by rw [z, r1] at e; cases e), if_neg (fun z => by rw [z, r2] at e; cases e), if_neg n]; exact e
theorem tab_env {F : Fm} (ok : F.Ok) {σ : Stt} {s : Shared} (hg : Gd F σ s) {P : Addr} (hPo : σ.H.own P) : ∃ mg, s.heap.Ns mainGlobals mg ∧ mainGlobals ≠ P ∧ s.heap.BuiltinsAt mg P := by
  obtain ⟨pp, loose, mean, mg, mb, T⟩ := ok.g.T
  obtain ⟨nPx, nPB⟩ := hg.hg.ow P hPo
  obtain ⟨bm, ob, b1, b2, b3, b4, b5, b6⟩ := T.bmain
  have hgP : mainGlobals ≠ P := fun q => by
    obtain ⟨o, es, ep, e, hd, _⟩ := T.g
    rw [q, nPB] at e; cases e
  have hbP : bm ≠ P := fun q => by rw [q, nPB] at b3; cases b3
  have hbG : bm ≠ mainGlobals := fun q => by
    obtain ⟨o, es, ep, e, hd, _⟩ := T.g
    rw [q, e] at b3; cases b3; rw [hd] at b6; cases b6
  exact ⟨mg, T.g.keeps hg.hg.bb, hgP, ⟨bm, ob, b1, b2, hbG, hbP, hg.hg.bb _ _ b3, b4, b5, b6⟩⟩
noncomputable def defK (P : Addr) (qual : Str) (mk : Value → Value → Addr → Value → Obj) (i : Nat) (Q : AF → Stt → Prop) (σ : Stt) : Prop :=
  σ.H.rd P = some (.raw (tabObj #[])) ∧ σ.H.own P ∧ ∀ fa c' co vs t doc pm ctv H', SubBut P σ.H H' → co.data = .fields vs → vs[1]? = some (.str qual t) → H'.rd c' = some (.raw co) → H'.rd fa = some (.raw (mk doc pm c' ctv)) → (∃ ps, H'.rd P = some (.raw (tabObj ps))) → ¬ H'.own fa → ¬ H'.own c' →
    σ.H.rd fa = none → σ.H.rd c' = none → letK i (.ref fa) Q ⟨σ.loc, H'⟩
theorem tr_def {F : Fm} {name : Str} {params : Arguments} {body : List Stmt} {scope : Scope} {pos : Pos} {i : Nat} {c P : Addr} {clos : List (Str × Addr)} (hcode : F.env.code = .ref c) (hC : F.g.Ok → CodeHd F.g.B c P) (hcl : closureFor scope F.env = pure clos)
    (hi : Lk F.nm name i) (hk : Storable F.env name) (hd0 : params.defaults = [] := by with_unfolding_all rfl) (hk0 : params.kw_defaults = [] := by with_unfolding_all rfl) (ha : annTrees params none F.env = [] := by with_unfolding_all rfl) :
    TrS F (.FunctionDef name params body [] none [] scope none name pos) (fun Q => defK P (qualnameIn F.env name name) (fun doc pm c' ctv => fnMade name (qualnameIn F.env name name) params body scope clos doc pm c' ctv) i Q) := by
  intro ok σ s Q hg ⟨hP, hPo, k⟩
  obtain ⟨mg, hns, hgP, hbm⟩ := tab_env ok hg hPo
  refine nestDef_K hd0 hk0 ha (makeFunction_K (mg := mg) hcl ok.glob hns hcode ((hC ok.g).keeps hg.hg.bb) (hg.hg.hr _ _ hP).1 trivial rfl hgP hbm fun c' ctv doc h' tk hx hge hlt hrec htb => ?_)
  obtain ⟨c₂, oc, vs, t, e2, hoc, hd, hv⟩ := hrec
  cases e2
  obtain ⟨g', st', r1, r2, o1, o2, n1, n2, n3⟩ := made_ok (tk := tk) ok hg hP hPo hx hge hlt hoc htb (fo := fnMade name (qualnameIn F.env name name) params body scope clos doc ((mg "__name__").getD .none) c' ctv) rfl
  have hk' := k h'.objs.size c' oc vs t doc ((mg "__name__").getD .none) ctv (σ.H.made h'.objs.size c' P (fnMade name (qualnameIn F.env name name) params body scope clos doc ((mg "__name__").getD .none) c' ctv) oc (tabObj (#[] ++ #[rawInt pos.line, rawInt pos.col, .ref c']))) (made_but r1 r2) hd hv (by show (if c' = h'.objs.size then _ else if c' = c' then _ else _) = _; rw [if_neg (Ne.symm n1), if_pos rfl]) (by show (if h'.objs.size = h'.objs.size then _ else _) = _; rw [if_pos rfl]) ⟨_, by show (if P = h'.objs.size then _ else if P = c' then _ else if P = P then _ else _) = _; rw [if_neg (Ne.symm n2), if_neg (Ne.symm n3), if_pos rfl]⟩ o1 o2 r1 r2
  exact store_ok ok hi hk VR.r g' fun s' g'' st'' => Pst.of FR.n hk' g'' (st'.trans st'')
noncomputable def lamK (P : Addr) (qual : Str) (mk : Value → Addr → Value → Obj) (Q : AV → Stt → Prop) (σ : Stt) : Prop :=
  σ.H.rd P = some (.raw (tabObj #[])) ∧ σ.H.own P ∧ ∀ fa c' co vs t pm ctv H', SubBut P σ.H H' → co.data = .fields vs → vs[1]? = some (.str qual t) → H'.rd c' = some (.raw co) → H'.rd fa = some (.raw (mk pm c' ctv)) → (∃ ps, H'.rd P = some (.raw (tabObj ps))) → ¬ H'.own fa → ¬ H'.own c' →
    σ.H.rd fa = none → σ.H.rd c' = none → Q (.ref fa) ⟨σ.loc, H'⟩
theorem tr_lam {F : Fm} {params : Arguments} {body : Expr} {scope : Scope} {pos : Pos} {c P : Addr} {clos : List (Str × Addr)} (hcode : F.env.code = .ref c) (hC : F.g.Ok → CodeHd F.g.B c P) (hcl : closureFor scope F.env = pure clos) (hdef : defaultsOf params F.env = ([], [])) :
    TrE F (.Lambda params body scope pos) (fun Q => lamK P (F.env.qual ++ "<lambda>") (fun pm c' ctv => kla_obj "<lambda>" (F.env.qual ++ "<lambda>") params body scope clos pm c' ctv) Q) := by
  intro ok σ s Q hg ⟨hP, hPo, k⟩
  obtain ⟨mg, hns, hgP, hbm⟩ := tab_env ok hg hPo
  refine kla_eval hdef (kla_makeFunction (mg := mg) hcl ok.glob hns hcode ((hC ok.g).keeps hg.hg.bb) (hg.hg.hr _ _ hP).1 trivial rfl hgP hbm fun c' ctv h' tk hx hge hlt hrec htb => ?_)
  obtain ⟨c₂, oc, vs, t, e2, hoc, hd, hv⟩ := hrec
  cases e2
  obtain ⟨g', st', r1, r2, o1, o2, n1, n2, n3⟩ := made_ok (tk := tk) ok hg hP hPo hx hge hlt hoc htb (fo := kla_obj "<lambda>" (F.env.qual ++ "<lambda>") params body scope clos ((mg "__name__").getD .none) c' ctv) rfl
  have hk' := k h'.objs.size c' oc vs t ((mg "__name__").getD .none) ctv (σ.H.made h'.objs.size c' P (kla_obj "<lambda>" (F.env.qual ++ "<lambda>") params body scope clos ((mg "__name__").getD .none) c' ctv) oc (tabObj (#[] ++ #[rawInt pos.line, rawInt pos.col, .ref c']))) (made_but r1 r2) hd hv (by show (if c' = h'.objs.size then _ else if c' = c' then _ else _) = _; rw [if_neg (Ne.symm n1), if_pos rfl]) (by show (if h'.objs.size = h'.objs.size then _ else _) = _; rw [if_pos rfl]) ⟨_, by show (if P = h'.objs.size then _ else if P = c' then _ else if P = P then _ else _) = _; rw [if_neg (Ne.symm n2), if_neg (Ne.symm n3), if_pos rfl]⟩ o1 o2 r1 r2
  exact Pst.of VR.r hk' g' st'
noncomputable def CellHas (cells : List (Str × Addr)) (nm : List Str) (σ : Stt) (a : Addr) (av : AV) : Prop := ∃ (i : Nat) (x : Str), nm[i]? = some x ∧ σ.loc[i]? = some (some av) ∧ (x, a) ∈ cells
open Classical in
noncomputable def Hp.shown (H H₀ : Hp) (cells : List (Str × Addr)) (nm : List Str) (σ : Stt) : Hp :=
  ⟨fun a => if inC cells a then (if h : ∃ av, CellHas cells nm σ a av then some (.cell (Classical.choose h)) else none) else H.rd a, fun a => (H.own a ∧ H₀.rd a = none ∧ ¬ inC cells a) ∨ H₀.own a ∨ inC cells a⟩
noncomputable def retX (H₀ : Hp) (cells : List (Str × Addr)) (nm : List Str) (Q : AV → Hp → Prop) (f : AF) (σ : Stt) : Prop := match f with
  | .ret v => ∀ H', (∀ a ao, σ.H.rd a = some ao → H'.rd a = some ao) → (∀ a av, CellHas cells nm σ a av → H'.rd a = some (.cell av) ∧ H'.own a ∧ H₀.rd a = none) → (∀ a, H₀.own a → H'.own a) → (∀ a, H'.own a → H₀.own a ∨ H₀.rd a = none) →
      (∀ a ao, σ.H.rd a = some ao → ¬ σ.H.own a → ¬ H₀.own a → ¬ H'.own a) → (∀ a ao, H₀.rd a = some ao → ¬ inC cells a) → Q v H'
  | _ => False
theorem callP_defX {g : Gs} {D : Nat} {f : Addr} {args : List AV} {H : Hp} {Q : AV → Hp → Prop} {fd : FuncData} {oc : Value} {od : Option Addr} {osl : Array (Option Value)} {body : List Stmt} (hK : g.K.lookup f = some ⟨oc, od, .func fd, osl⟩) (hcd : codeIn g.K fd.code fd.qualname = true)
    (hbody : fd.body = .stmts body) (hclo : fd.closure = []) (hgl : fd.globals = mainGlobals) (hbi : fd.builtins = builtinsNs) (ps more : List Str) (hnd : (ps ++ more).Nodup) (hl : ps.length = args.length)
    (hkind : ∀ n, ∀ x ∈ ps, fd.scope.names.lookup x = some .local ∨ (fd.scope.names.lookup x = some .cell ∧ ((cellsFrom n fd.scope.names []).lookup x).isSome = true))
    (hkc : ∀ x ∈ (cellsFrom 0 fd.scope.names []).map (·.1), fd.scope.names.lookup x = some .cell)
    (hcn : ((cellsFrom 0 fd.scope.names []).map (·.1)).Nodup)
    (hbind : ∀ vs, VRs vs args → bindArgs fd ⟨vs, []⟩ = pure (ps.zip vs)) {Wb : Addr → Pr AF}
    (hW : ∀ A L, TrB ⟨g, D, A, callEnvC fd L f, ps ++ more⟩ body (Wb L))
    (hVC : ∀ L, Wb L (retX H (callEnvC fd L f).cells (ps ++ more) Q) ⟨args.map some ++ List.replicate more.length none, H⟩)
    (hco : fd.scope.isCoroutine = false := by with_unfolding_all rfl) (hgen : fd.scope.isGenerator = false := by with_unfolding_all rfl) (hk : fd.scope.kind = .function := by with_unfolding_all rfl) : callP g (D + 1) f args H Q := by
  refine ⟨fun ok A s vals hh hroom hun hg hsz hv => ?_⟩
  obtain ⟨pp, loose, mean, mg, mb, T⟩ := ok.T
  have hX : ∀ a o, g.K.lookup a = some o → s.heap.get? a = some o := fun a o e => hg.bb _ _ (ok.X _ _ e)
  have hps : (ps.zip vals).map (·.1) = ps := by
    rw [List.map_fst_zip]
    rw [hl, hv.length]; exact Nat.le_refl _
  have hpsn : ps.Nodup := (List.nodup_append.mp hnd).1
  refine (codeAny_call_cells (R := CallR g H Q s) (o := ⟨oc, od, .func fd, osl⟩) (by (first | lia | omega)) (hX _ _ hK) rfl (T.nolimit.keeps hg.bb) (codeRec_of (fun a o e => hX a o e) hcd) hbody (hbind vals hv) hclo (fun x hx => ?_) (fun s₁ x => ?_) hco hgen hk)
  · refine hkind _ _ ?_
    have := List.mem_map_of_mem (f := (·.1)) hx
    rwa [hps] at this
  · generalize hL : s.heap.objs.size = L at x
    have hnames : (callEnvC fd L f).cells.map (·.1) = (cellsFrom 0 fd.scope.names []).map (·.1) := cellsFrom_names fd.scope.names (L + 1) 0 [] [] rfl
    have hcells : ∀ n c, (n, c) ∈ (callEnvC fd L f).cells → (callEnvC fd L f).cells.lookup n = some c := fun n c hm => lookup_of_mem_nodup (hnames ▸ hcn) hm
    have hkcell : ∀ n c, (n, c) ∈ (callEnvC fd L f).cells → (callEnvC fd L f).kindOf n = some .cell := fun n c hm => hkc n (hnames ▸ List.mem_map_of_mem (f := (·.1)) hm)
    obtain ⟨h₁, tk₁, rfl, kk⟩ := x.done
    have freshx : ∀ a, Fm.exm ⟨g, D, A.deeper (callEnvC fd L f), callEnvC fd L f, ps ++ more⟩ a → L ≤ a := by
      rintro a (rfl | ⟨y, hy⟩)
      · exact Nat.le_refl _
      · exact Nat.le_of_lt (x.above _ _ hy)
    have nox : ∀ a, s.heap.get? a ≠ none → ¬ Fm.exm ⟨g, D, A.deeper (callEnvC fd L f), callEnvC fd L f, ps ++ more⟩ a := by
      intro a ha hx
      cases q : s.heap.get? a with
      | none => exact ha q
      | some o => exact absurd (Heap.lt_size q) (Nat.not_lt.mpr (hL ▸ freshx a hx))
    have fok : Fm.Ok ⟨g, D, A.deeper (callEnvC fd L f), callEnvC fd L f, ps ++ more⟩ := by
      refine ⟨ok, hh, ?_, ?_, hk, hgl, hbi, hL ▸ hsz, fun c hc => ⟨none_of fun o q => absurd (Heap.lt_size q) (Nat.not_lt.mpr (Nat.le_trans hsz (hL ▸ Nat.le_of_lt (x.above c.1 c.2 hc)))), Nat.ne_of_gt (x.above c.1 c.2 hc)⟩, x.apart, hnd⟩
      · show A.depth + 1 + D < recursionLimit; (first | lia | omega)
      · show A.units + 3 + 8 * D + 128 < cLine; (first | lia | omega)
    have g₀ : Gd ⟨g, D, A.deeper (callEnvC fd L f), callEnvC fd L f, ps ++ more⟩ ⟨args.map some ++ List.replicate more.length none, H⟩ { s with heap := h₁, toks := tk₁ } := by
      refine ⟨⟨fun a ao e => ⟨(hg.hr a ao e).1.keeps (kk a), nox a (hg.hr a ao e).1.alive⟩, fun a e => ⟨nox a (hg.al a e), (hg.ow a e).2⟩, fun b o e => kk b o (hg.bb b o e), fun a e => alive_of kk a (hg.al a e)⟩, ⟨_, x.toInCall.ns, fun i y av h1 h2 => ?_⟩, fun c hc => ⟨_, x.cell c.1 c.2 (hcells _ _ hc)⟩⟩
      have h3 := init_loc h2
      obtain ⟨v, v1, v2⟩ := hv.get i av h3
      have hi : i < ps.length := by rw [hl]; exact (List.getElem?_eq_some_iff.mp h3).1
      have h4 : ps[i]? = some y := by
        have : (ps ++ more)[i]? = some y := h1
        rwa [List.getElem?_append_left hi] at this
      have hm := zip_mem i y v h4 v1
      refine ⟨v, v2, ?_⟩
      rcases hkind (L + 1) y (List.mem_of_getElem? h4) with hy | ⟨hy, hc⟩
      · exact .inl ⟨hy, bindL_get hy (show (List.map (fun x => x.1) (ps.zip vals)).Nodup by rw [hps]; exact hpsn) hm⟩
      · obtain ⟨c, hc⟩ := Option.isSome_iff_exists.mp hc
        have hnl : (callEnvC fd L f).kindOf y ≠ some .local := by rw [show (callEnvC fd L f).kindOf y = _ from hy]; decide
        refine .inr ⟨.inl hy, c, hc, ?_⟩
        have := x.cell y c hc
        rwa [bindC_get hnl (show (List.map (fun x => x.1) (ps.zip vals)).Nodup by rw [hps]; exact hpsn) hm] at this
    refine wpAny_mono (hW (A := A.deeper (callEnvC fd L f)) (L := L) fok _ _ _ g₀ (hVC L)) (fun fl s' h => ?_) fun _ _ x => x.elim
    obtain ⟨a, σ', r, hret, g', ⟨⟨h', tk', rfl⟩, st⟩⟩ := h
    cases a with
    | ret v =>
      obtain ⟨u, rfl, hu⟩ := r
      have alk : ∀ a, s.heap.get? a ≠ none → h'.get? a ≠ none := fun b e => st.alive b (alive_of kk b e)
      have one : ∀ a av, CellHas (callEnvC fd L f).cells (ps ++ more) σ' a av → ∀ av', CellHas (callEnvC fd L f).cells (ps ++ more) σ' a av' → av' = av := by
        rintro a av ⟨i, y, z1, z2, z3⟩ av' ⟨i', y', w1, w2, w3⟩
        have : y' = y := name_of_addr x.apart w3 z3
        subst this
        have : i' = i := nodup_get hnd w1 z1
        subst this
        rw [z2] at w2; cases w2; rfl
      have has : ∀ a av, CellHas (callEnvC fd L f).cells (ps ++ more) σ' a av → ∃ v, h'.IsCell a (some v) ∧ VR v av := by
        rintro a av ⟨i, y, z1, z2, z3⟩
        obtain ⟨m, hm', hl'⟩ := g'.ns
        obtain ⟨v', q1, q2⟩ := hl' i y av z1 z2
        refine ⟨v', ?_, q1⟩
        rcases q2 with ⟨q2, _⟩ | ⟨_, c, q3, q4⟩
        · have q5 := hkcell y a z3
          rw [show (callEnvC fd L f).kindOf y = _ from q2] at q5; cases q5
        · have q5 := hcells y a z3
          rw [show (callEnvC fd L f).cells.lookup y = some c from q3] at q5
          cases q5; exact q4
      have new : ∀ a, inC (callEnvC fd L f).cells a → s.heap.get? a = none := fun a ⟨y, hy⟩ => none_of fun o q => absurd (Heap.lt_size q) (Nat.not_lt.mpr (hL ▸ Nat.le_of_lt (x.above _ _ hy)))
      have hin : ∀ a av, CellHas (callEnvC fd L f).cells (ps ++ more) σ' a av → inC (callEnvC fd L f).cells a := fun a av ⟨i, y, _, _, z3⟩ => ⟨y, z3⟩
      have nrd : ∀ a, inC (callEnvC fd L f).cells a → H.rd a = none := fun a ha => none_of fun ao q => (hg.hr a ao q).1.alive (new a ha)
      refine ⟨v, σ'.H.shown H (callEnvC fd L f).cells (ps ++ more) σ', h', tk', rfl, hu, hret _ (fun a ao e => ?_) (fun a av e => ?_) (fun a e => .inr (.inl e)) (fun a e => ?_) (fun a ao n1 n2 n3 e => ?_) (fun a ao e hi => ?_), ⟨fun a ao e => ⟨?_, id⟩, fun a e => ⟨id, ?_⟩, g'.hg.bb, fun a e => ?_⟩, ⟨fun b o e _ n2 => st.keep b o (kk b o e) (nox b (some_ne e)) n2, alk, fun a e => ?_, fun a e => ?_⟩⟩
      · have hni : ¬ inC (callEnvC fd L f).cells a := fun hx => (g'.hg.hr a ao e).2 (.inr hx)
        dsimp only [Hp.shown]
        rw [if_neg hni]; exact e
      · refine ⟨?_, .inr (.inr (hin a av e)), nrd a (hin a av e)⟩
        dsimp only [Hp.shown]
        have ex : ∃ av, CellHas (callEnvC fd L f).cells (ps ++ more) σ' a av := ⟨av, e⟩
        rw [if_pos (hin a av e), dif_pos ex, one a av e _ (Classical.choose_spec ex)]
      · rcases e with ⟨_, e, _⟩ | e | e
        · exact .inr e
        · exact .inl e
        · exact .inr (nrd a e)
      · rcases e with ⟨e, _, _⟩ | e | e
        · exact n2 e
        · exact n3 e
        · exact (g'.hg.hr a ao n1).2 (.inr e)
      · rw [nrd a hi] at e; cases e
      · dsimp only [Hp.shown] at e
        split at e
        · split at e
          · rename_i ex
            cases e
            exact has a _ (Classical.choose_spec ex)
          · cases e
        · exact (g'.hg.hr a ao e).1
      · rcases e with ⟨e, _, _⟩ | e | ⟨y, e⟩
        · exact (g'.hg.ow a e).2
        · exact (hg.ow a e).2
        · exact (fok.Cb (y, a) e).1
      · rcases e with ⟨e, _, _⟩ | e | ⟨y, e⟩
        · exact g'.hg.al a e
        · exact alk a (hg.al a e)
        · obtain ⟨v, o, q, _⟩ := g'.cells (y, a) e
          exact some_ne q
      · rcases e with ⟨e, _, _⟩ | e | e
        · rcases st.own a e with z | z
          · exact .inl z
          · exact .inr (none_of fun o y => by have := kk a o y; rw [show h₁.get? a = none from z] at this; cases this)
        · exact .inl e
        · exact .inr (new a e)
      · dsimp only [Hp.shown] at e
        split at e
        · rename_i hi; exact .inr (new a hi)
        · rcases st.rd a e with z | z
          · exact .inl z
          · exact .inr (none_of fun o y => by have := kk a o y; rw [show h₁.get? a = none from z] at this; cases this)
    | next => exact hret.elim
    | brk => exact hret.elim
    | cont => exact hret.elim
theorem inst_at {h : Heap} {x C dx : Addr} {od : Obj} (h1 : h.get? x = some (instObj C dx)) (h2 : h.get? dx = some od) : InstAt h x (instObj C dx) C (some od) := ⟨h1, rfl, rfl, h2⟩
noncomputable def attrK (K : Frag) (name : Str) (a : AV) (Q : AV → Stt → Prop) (σ : Stt) : Prop := match a with
  | .ref x => ∃ C dx es n v av, σ.H.rd x = some (.raw (instObj C dx)) ∧ σ.H.rd dx = some (.raw (dictOf es n)) ∧ plainGet K C name = true ∧ hasDictIn K C = true ∧ findIn K (.ref C) name = some none ∧ getL name es = some (some v) ∧ handedIn v = true ∧ VR v av ∧ Q av σ
  | _ => False
theorem tr_attr {F : Fm} {e : Expr} {name : Str} {p : Pos} {W : Pr AV} (he : TrE F e W)
    (hc : eval (.Attribute e name p) F.env = (do
      let o ← eval e F.env
      standAt p.atName
      let r ← holding [o] (getAttr o name true)
      letTemporaryGo e o r
      pure r) := by with_unfolding_all rfl) : TrE F (.Attribute e name p) (bnd W fun a => attrK F.g.K name a) := by
  intro ok σ s Q hg hW
  refine Attribute_any_ (he.use ok hg hW fun v s₁ a σ₁ r₁ h₁ g₁ st₁ => ?_) hc
  try dsimp only at h₁
  unfold attrK at h₁
  split at h₁
  · obtain ⟨C, dx, es, n, v', av, e1, e2, e3, e4, e5, e6, e7, e8, k⟩ := h₁
    cases r₁
    obtain ⟨m, Fr⟩ := g₁.fr ok
    exact get_own Fr ok.g.X (inst_at (g₁.hg.hr _ _ e1).1 (g₁.hg.hr _ _ e2).1) e3 e4 e5 rfl e6 e7 (Pst.of e8 k g₁.toks (st₁.trans Sp.toks))
  · exact h₁.elim
theorem newsAt {B h : Heap} {L dx : Addr} {od : Obj} (hd : h.get? dx = some od) (hL : dx ≠ L) (hB : B.get? dx = none) : ∃ rest : List (Addr × Obj), News B L h ((dx, od) :: rest) ∧ (∀ p ∈ rest, p.1 ≠ dx) ∧ ∀ a o, h.get? a = some o → a ≠ L → a ≠ dx → B.get? a = none → (a, o) ∈ rest := by
  obtain ⟨news, hN, hall⟩ := allNews h L
  refine ⟨news.filter fun p => (p.1 != dx) && (B.get? p.1).isNone, fun p hp => ?_, fun p hp => ?_, fun a o e n1 n2 n3 => ?_⟩
  · rcases List.mem_cons.mp hp with rfl | hp
    · exact ⟨hd, hL, hB⟩
    · obtain ⟨q1, q2⟩ := List.mem_filter.mp hp
      obtain ⟨z1, z2, _⟩ := hN p q1
      exact ⟨z1, z2, by simpa using (Bool.and_eq_true_iff.mp q2).2⟩
  · obtain ⟨q1, q2⟩ := List.mem_filter.mp hp
    simpa using (Bool.and_eq_true_iff.mp q2).1
  · exact List.mem_filter.mpr ⟨hall a o e n1, by simp [n2, n3]⟩
theorem Gd.changeL {F : Fm} (ok : F.Ok) {σ : Stt} {s : Shared} (hg : Gd F σ s) {l : Addr} (hown : σ.H.own l) {h' : Heap} {tk : Nat} {ao : AObj} {m : Str → Option Value} (hm : s.heap.Ns F.env.locals m) (hr : σ.H.rd l ≠ none) (hm' : h'.Ns F.env.locals m)
    (k : ∀ b o, b ≠ l → b ≠ F.env.locals → s.heap.get? b = some o → h'.get? b = some o) (ho : HObj h' l ao) : Gd F (σ.set l ao) { s with heap := h', toks := tk } ∧ Sp F σ s (σ.set l ao) { s with heap := h', toks := tk } := by
  obtain ⟨⟨hrd, ow, bb, al⟩, ⟨m₀, hm₀, hl⟩, cl⟩ := hg
  have em : m₀ = m := by
    obtain ⟨o, es, ep, q1, q2, _, q4⟩ := hm₀
    obtain ⟨o', es', ep', p1, p2, _, p4⟩ := hm
    rw [q1] at p1; cases p1
    rw [q2] at p2; cases p2
    funext x
    rw [← q4 x, p4 x]
  subst em
  obtain ⟨nx, nB⟩ := ow l hown
  have nL : l ≠ F.env.locals := fun e => nx (.inl e)
  have hal := ho.alive
  have isc : ∀ y c v, (y, c) ∈ F.env.cells → s.heap.IsCell c v → h'.IsCell c v := fun y c v hm ⟨o, ho, hd⟩ => ⟨o, k _ _ (fun e => nx (.inr ⟨y, e ▸ hm⟩)) (ok.Cb _ hm).2 ho, hd⟩
  refine ⟨⟨⟨fun a bo e => ?_, ow, fun b o e => ?_, fun a e => (Classical.em (a = l)).elim (fun z => z ▸ hal) fun n => (Option.ne_none_iff_exists'.mp (al a e)).elim fun o q => some_ne (k a o n (fun z => (ow a e).1 (.inl z)) q)⟩, ⟨m₀, hm', fun i y av h1 h2 => ?_⟩, fun c hc => ?_⟩, ⟨⟨_, _, rfl⟩, ⟨fun b o e n1 n2 => k b o (fun z => n2 (z ▸ hown)) (fun z => n1 (.inl z)) e, fun b e => ?_, fun _ e => .inl e, fun a e => ?_⟩⟩⟩
  · dsimp only [Stt.set, Hp.set] at e
    split at e
    · cases e; subst_vars; exact ⟨ho, nx⟩
    · rename_i n
      exact ⟨(hrd a bo e).1.keeps fun o q => k _ _ n (fun z => (hrd a bo e).2 (.inl z)) q, (hrd a bo e).2⟩
  · exact k b o (fun z => by rw [z, nB] at e; cases e) (fun z => by rw [z, ok.noL] at e; cases e) (bb b o e)
  · obtain ⟨v, q1, q2⟩ := hl i y av h1 h2
    refine ⟨v, q1, ?_⟩
    rcases q2 with q2 | ⟨b1, c, b2, b3⟩
    · exact .inl q2
    · exact .inr ⟨b1, c, b2, isc _ _ _ (mem_of_lookup b2) b3⟩
  · obtain ⟨v, q⟩ := cl c hc
    exact ⟨v, isc c.1 _ _ hc q⟩
  · by_cases n : b = l
    · subst n; exact hal
    · show h'.get? b ≠ none
      by_cases n2 : b = F.env.locals
      · rw [n2]
        obtain ⟨oL, _, _, q, _⟩ := hm'
        exact some_ne q
      · obtain ⟨o, q⟩ := Option.ne_none_iff_exists'.mp e
        exact some_ne (k b o n n2 q)
  · dsimp only [Stt.set, Hp.set] at e
    split at e
    · subst_vars; exact .inl hr
    · exact .inl e
noncomputable def setattrK (g : Gs) (name : Str) (a v : AV) (Q : AF → Stt → Prop) (σ : Stt) : Prop := match a with
  | .ref x => ∃ C dx es n, σ.H.rd x = some (.raw (instObj C dx)) ∧ σ.H.rd dx = some (.raw (dictOf es n)) ∧ σ.H.own dx ∧ findIn g.K (.ref C) "__setattr__" = some (some (.builtin "object.__setattr__")) ∧ plainOver g.K C = true ∧ takerIn g.K C name = some none ∧ hasDictIn g.K C = true ∧
      (getL name es).isSome = true ∧ es.length ≤ 900 ∧ ∀ u tk H', VR u v → Turned σ.H dx (.raw (dictOf (putL name (PyData.keyHash g.w.params name) (.str name tk) u es) (putN name es n))) H' → Q .next ⟨σ.loc, H'⟩
  | _ => False
theorem putL_len (name : Str) (hsh : Int) (key v : Value) : ∀ es : List DictEntry, (putL name hsh key v es).length ≤ es.length + 1
  | [] => by simp [putL]
  | e :: r => by
    unfold putL
    split
    · simp
    · have := putL_len name hsh key v r; simp; (first | lia | omega)
theorem tr_setattr {F : Fm} {o e : Expr} {name : Str} {p q : Pos} {Wo We : Pr AV} (he : TrE F e We) (ho : TrE F o Wo) (hs : swapsWith e (some (.Attribute o name p)) q.line F.env = pure false := by with_unfolding_all rfl) :
    TrS F (.Assign [.Attribute o name p] e q) (bnd We fun v => bnd Wo fun a => setattrK F.g name a v) := by
  intro ok σ s Q hg hW
  refine plainObj_wpAny_Assign_Attribute (he.use ok hg hW fun v s₁ a σ₁ r₁ h₁ g₁ st₁ => ho.use ok g₁ h₁ fun u s₂ b σ₂ r₂ h₂ g₂ st₂ => ?_) hs
  try dsimp only at h₂
  unfold setattrK at h₂
  split at h₂
  · obtain ⟨C, dx, es, n, e1, e2, e3, e4, e5, e6, e7, e8, e9, k⟩ := h₂
    cases r₂
    obtain ⟨m, Fr⟩ := g₂.fr ok
    have hd : s₂.heap.get? dx = some (dictOf es n) := (g₂.hg.hr _ _ e2).1
    obtain ⟨nx, nB⟩ := g₂.hg.ow dx e3
    have nL : dx ≠ F.env.locals := fun z => nx (.inl z)
    obtain ⟨rest, N, hne, hall⟩ := newsAt (B := F.g.B) hd nL nB
    have hlen := putL_len name (PyData.keyHash F.g.w.params name) (.str name (s₂.toks + 1)) v es
    refine set_dict Fr ok.g.X N (inst_at (g₂.hg.hr _ _ e1).1 hd) rfl e4 e5 e6 e7 e8 rfl (.head hne) (by (first | lia | omega)) fun h' F' N' => ?_
    have hb : ∀ b o, b ≠ dx → b ≠ F.env.locals → s₂.heap.get? b = some o → h'.get? b = some o := fun b o n1 n2 z => by
      cases q : F.g.B.get? b with
      | none => exact (N' _ (.tail _ (hall b o z n2 n1 q))).1
      | some o' =>
        have := g₂.hg.bb b o' q
        rw [z] at this; cases this
        exact F'.keep b o q
    obtain ⟨g', st'⟩ := g₂.changeL ok (tk := s₂.toks + 2) e3 Fr.ns (by rw [e2]; intro z; cases z) F'.ns hb (show HObj h' dx (.raw _) from (N' _ (.head _)).1)
    exact Pst.of FR.n (k v (s₂.toks + 1) _ r₁ (Hp.set_turned _ _ _)) g' (st₁.trans (st₂.trans st'))
  · exact h₂.elim
noncomputable def clsK (g : Gs) (f : AV) (σ : Stt) (P : Prop) : Prop := (∃ a, f = .ref a ∧ keepIn g.K (.ref a) = true) ∧ P
theorem tr_ccall {g : Gs} {D : Nat} {A : Around} {env : Env} {nm : List Str} {fe e : Expr} {es : List Expr} {p : Pos} {Wf : Pr AV} {Wa : Pr (List AV)} (hf : TrE ⟨g, D, A, env, nm⟩ fe Wf) (ha : TrL ⟨g, D, A, env, nm⟩ (e :: es) p Wa)
    (hn : starEach (e :: es) env = (false, eval e env) :: starEach es env := by with_unfolding_all rfl) (hp : (backTo p (starEach es env)).any (·.1) = false := by with_unfolding_all rfl)
    (hc : eval (.Call fe (e :: es) [] p) env = (do callWith p (← eval fe env) [] (backTo p (starEach (e :: es) env)) (backToKw p (keywordEach [] env))) := by with_unfolding_all rfl) :
    TrE ⟨g, D, A, env, nm⟩ (.Call fe (e :: es) [] p) (bnd Wf fun f Q σ => clsK g f σ (Wa (fun as => callK g D f as Q) σ)) := by
  intro ok σ s Q hg hW
  refine Call_ (hf.use ok hg hW fun v s₁ a σ₁ r₁ h₁ g₁ st₁ => ?_) hc
  obtain ⟨⟨f, rfl, hfn⟩, h₁⟩ := h₁
  cases r₁
  refine callWith_K ok.g.X hfn (ha.use ok g₁ h₁ fun vs s₂ as σ₂ r₂ h₂ g₂ st₂ => ?_) hn hp
  obtain ⟨f', hf', hcp⟩ := h₂
  cases hf'
  refine ⟨fun a o z => g₂.hg.bb _ _ (ok.g.X a o z), ?_⟩
  have hsz : g.B.objs.size ≤ s₂.heap.objs.size := by
    obtain ⟨m, hm, _⟩ := g₂.ns
    exact Nat.le_of_lt (Nat.lt_of_le_of_lt ok.Lb hm.lt)
  refine wpAny_mono (hcp.wp ok.g A s₂ vs ok.hh ok.room ok.units g₂.hg.weak hsz r₂) (fun v s₃ h₃ => ?_) fun _ _ x => x
  obtain ⟨av, H', h', tk', rfl, r₃, h₃, g₃, st₃⟩ := h₃
  obtain ⟨g₄, st₄⟩ := back_ok ok g₂ g₃ st₃ (tk := tk')
  exact Pst.of r₃ h₃ g₄ (st₁.trans (st₂.trans st₄))
theorem callP_make {g : Gs} {D : Nat} {C fI : Addr} {args : List AV} {H : Hp} {Q : AV → Hp → Prop} (hm : makesIn g.K C = true) (hi : findIn g.K (.ref C) "__init__" = some (some (.ref fI))) (hf : typeIn g.K (.ref fI) = some (.type "function"))
    (k : ∀ x dx H₁, H.Sub H₁ → H.rd x = none → H.rd dx = none → x ≠ dx → H₁.rd x = some (.raw (instObj C dx)) → H₁.rd dx = some (.raw (dictOf [] 0)) → H₁.own dx → callP g D fI (.ref x :: args) H₁ (fun v H' => v = .none ∧ Q (.ref x) H')) : callP g (D + 2) C args H Q := by
  refine ⟨fun ok A s vals hh hroom hun hg hsz hv => ?_⟩
  obtain ⟨hh', gg, d, t, os⟩ := s
  have X : g.K.In hh' := fun a o e => hg.bb _ _ (ok.X _ _ e)
  refine make_core (makes_of X hm) (looks_findIn X hi) (fun self => bind_fn X self hf) (.inl rfl) ?_
  have hz : (hh'.push emptyDict).objs.size = hh'.objs.size + 1 := size_push1 _ _
  have kk : ∀ b o, hh'.get? b = some o → ((hh'.push emptyDict).push (instObj C hh'.objs.size)).get? b = some o := fun b o e => Heap.get?_push_of_some _ (Heap.get?_push_of_some _ e)
  have gd : ((hh'.push emptyDict).push (instObj C hh'.objs.size)).get? hh'.objs.size = some emptyDict := Heap.get?_push_of_some _ (Heap.get?_push_size _ rfl)
  have gx : ((hh'.push emptyDict).push (instObj C hh'.objs.size)).get? (hh'.objs.size + 1) = some (instObj C hh'.objs.size) := by rw [← hz]; exact Heap.get?_push_size _ rfl
  have fd := fresh_size hh'
  have fx : hh'.get? (hh'.objs.size + 1) = none := none_of fun o q => absurd (Heap.lt_size q) (Nat.not_lt.mpr (Nat.le_succ _))
  have rdn : ∀ a, hh'.get? a = none → H.rd a = none := fun a e => none_of fun ao q => (hg.hr a ao q).1.alive e
  have nBd : ∀ a, hh'.get? a = none → g.B.get? a = none := fun a e => none_of fun o q => by rw [hg.bb _ _ q] at e; cases e
  generalize hdx : hh'.objs.size = dx at *
  have hne : dx + 1 ≠ dx := Nat.succ_ne_self _
  have hs₁ : H.Sub ((H.put dx (.raw (dictOf [] 0))).put (dx + 1) (.raw (instObj C dx))) := by
    refine ⟨fun a ao e => ?_, fun a e => .inr (.inr e), fun a e => ?_⟩
    · show (if a = dx + 1 then _ else if a = dx then _ else H.rd a) = _
      rw [if_neg (fun z => by rw [z, rdn _ fx] at e; cases e), if_neg (fun z => by rw [z, rdn _ fd] at e; cases e)]; exact e
    · rcases e with e | e | e
      · exact .inr (e ▸ rdn _ fx)
      · exact .inr (e ▸ rdn _ fd)
      · exact .inl e
  have hk := k (dx + 1) dx _ hs₁ (rdn _ fx) (rdn _ fd) hne (by show (if dx + 1 = dx + 1 then _ else _) = _; rw [if_pos rfl]) (by show (if dx = dx + 1 then _ else if dx = dx then _ else _) = _; rw [if_neg (Ne.symm hne), if_pos rfl]) (.inr (.inl rfl))
  have hg₁ : HGood g.B noX ((H.put dx (.raw (dictOf [] 0))).put (dx + 1) (.raw (instObj C dx))) ((hh'.push emptyDict).push (instObj C dx)) := by
    refine ⟨fun a ao e => ⟨?_, id⟩, fun a e => ⟨id, ?_⟩, fun b o e => kk b o (hg.bb b o e), fun a e => ?_⟩
    · dsimp only [Hp.put] at e
      split at e
      · rename_i z; cases e; subst z; exact gx
      · split at e
        · rename_i z; cases e; subst z; exact gd
        · exact (hg.hr a ao e).1.keeps (kk a)
    · rcases e with e | e | e
      · exact e ▸ nBd _ fx
      · exact e ▸ nBd _ fd
      · exact (hg.ow a e).2
    · rcases e with e | e | e
      · rw [e]; exact some_ne gx
      · rw [e]; exact some_ne gd
      · exact alive_of kk a (hg.al a e)
  refine codeAny_mono (hk.run ok (A.under (.builtin "type.__call__" ⟨.ref C :: vals, []⟩)) ⟨(hh'.push emptyDict).push (instObj C dx), gg, d, t, os⟩ (.ref (dx + 1) :: vals) hh ?_ ?_ hg₁ ?_ (.cons VR.r hv)) fun r s' z => ?_
  · show A.depth + 1 + D < recursionLimit; (first | lia | omega)
  · have : (A.under (.builtin "type.__call__" ⟨.ref C :: vals, []⟩)).units = A.units + 1 := rfl
    (first | lia | omega)
  · rw [size_push1, hz]
    exact Nat.le_trans hsz (by (first | lia | omega))
  · unfold CallR at z
    split at z
    · obtain ⟨av, H', h', tk', rfl, rv, ⟨rfl, hQ⟩, g', st⟩ := z
      refine ⟨rv, ⟨_, H', h', tk', rfl, VR.r, hQ, g', ⟨fun b o e n1 n2 => st.keep b o (kk b o e) id fun z => ?_, fun b e => st.alive b (alive_of kk b e), fun a e => ?_, fun a e => ?_⟩⟩⟩
      · rcases z with z | z | z
        · rw [z] at e; rw [show hh'.get? (dx + 1) = none from fx] at e; cases e
        · rw [z] at e; rw [show hh'.get? dx = none from fd] at e; cases e
        · exact n2 z
      · rcases st.own a e with z | z
        · rcases z with z | z | z
          · exact .inr (z ▸ fx)
          · exact .inr (z ▸ fd)
          · exact .inl z
        · exact .inr (none_of fun o y => by have := kk a o y; rw [show ((hh'.push emptyDict).push (instObj C dx)).get? a = none from z] at this; cases this)
      · rcases st.rd a e with z | z
        · dsimp only [Hp.put] at z
          split at z
          · rename_i y; exact .inr (y ▸ fx)
          · split at z
            · rename_i y; exact .inr (y ▸ fd)
            · exact .inl z
        · exact .inr (none_of fun o y => by have := kk a o y; rw [show ((hh'.push emptyDict).push (instObj C dx)).get? a = none from z] at this; cases this)
    · exact z.elim
theorem tr_attrG {g : Gs} {D : Nat} {A : Around} {env : Env} {nm : List Str} {e : Expr} {name : Str} {p : Pos} {W : Pr AV} (he : TrE ⟨g, D, A, env, nm⟩ e W)
    (hc : eval (.Attribute e name p) env = (do
      let o ← eval e env
      standAt p.atName
      let r ← holding [o] (getAttr o name true)
      letTemporaryGo e o r
      pure r) := by with_unfolding_all rfl) : TrE ⟨g, D, A, env, nm⟩ (.Attribute e name p) (bnd W fun a => attrK g.K name a) := tr_attr he hc
theorem tr_setattrG {g : Gs} {D : Nat} {A : Around} {env : Env} {nm : List Str} {o e : Expr} {name : Str} {p q : Pos} {Wo We : Pr AV} (he : TrE ⟨g, D, A, env, nm⟩ e We) (ho : TrE ⟨g, D, A, env, nm⟩ o Wo) (hs : swapsWith e (some (.Attribute o name p)) q.line env = pure false := by with_unfolding_all rfl) :
    TrS ⟨g, D, A, env, nm⟩ (.Assign [.Attribute o name p] e q) (bnd We fun v => bnd Wo fun a => setattrK g name a v) := tr_setattr he ho hs
noncomputable def Fm.comp (F : Fm) (scope : Scope) (cl : List (Str × Addr)) (C : Addr) (nm : List Str) : Fm := ⟨F.g, F.D, F.A, compEnvC scope cl C F.env, nm⟩
structure Inn (F : Fm) (scope : Scope) (cl : List (Str × Addr)) (C : Addr) (x : Str) (frs : List Str) (fi : List Nat) : Prop where
  sees : ∀ y c, (y, c) ∈ cl → F.env.cells.lookup y = some c ∧ y ∈ frs
  free : ∀ y ∈ frs, (compEnvC scope cl C F.env).kindOf y = some .cell ∨ ((compEnvC scope cl C F.env).kindOf y = some .free ∧ (y == ("__classdict__" : Str)) = false)
  idx : ∀ (k : Nat) (y : Str), frs[k]? = some y → ∃ i, fi[k]? = some i ∧ F.nm[i]? = some y
  len : fi.length = frs.length
  CL : C ≠ F.env.locals
  Cc : ∀ y c, (y, c) ∈ F.env.cells → c ≠ C
noncomputable def fvals (fi : List Nat) (loc : List (Option AV)) : List (Option AV) := fi.map fun i => (loc[i]?).join
theorem inner_step {F : Fm} (ok : F.Ok) {scope : Scope} {cl : List (Str × Addr)} {C : Addr} {x : Str} {frs : List Str} {fi : List Nat} (I : Inn F scope cl C x frs fi) {loc : List (Option AV)} {H H' : Hp} {s s' : Shared} {o o' : Option AV}
    (hF : Gd F ⟨loc, H⟩ s) (st : Sp (F.comp scope cl C (x :: frs)) ⟨o :: fvals fi loc, H⟩ s ⟨o' :: fvals fi loc, H'⟩ s') (hI : Gd (F.comp scope cl C (x :: frs)) ⟨o' :: fvals fi loc, H'⟩ s') (hI₀ : Gd (F.comp scope cl C (x :: frs)) ⟨o :: fvals fi loc, H⟩ s)
    (hLal : s.heap.get? F.env.locals ≠ none) : Gd F ⟨loc, H'⟩ s' := by
  obtain ⟨⟨h', tk', rfl⟩, st⟩ := st
  have ninner : ∀ b, (F.comp scope cl C (x :: frs)).exm b ↔ (b = C ∨ inC cl b) := fun b => Iff.rfl
  have Lout : ¬ (F.comp scope cl C (x :: frs)).exm F.env.locals := fun h => by
    rcases h with h | ⟨y, hy⟩
    · exact I.CL h.symm
    · exact (ok.Cb _ (mem_of_lookup (I.sees y _ hy).1)).2 rfl
  have exal : ∀ b, F.exm b → s.heap.get? b ≠ none := fun b hb => exm_alive hF hb
  have noown : ∀ b, F.exm b → ¬ H.own b := fun b hb z => (hF.hg.ow b z).1 hb
  have hL : ∀ o, s.heap.get? F.env.locals = some o → h'.get? F.env.locals = some o := fun o e => st.keep _ o e Lout (noown _ (.inl rfl))
  have cellk : ∀ y c, (y, c) ∈ F.env.cells → ¬ inC cl c → ∀ o, s.heap.get? c = some o → h'.get? c = some o := fun y c hm hn o e => st.keep c o e (fun h => by
    rcases h with h | h
    · exact I.Cc y c hm h
    · exact hn h) (noown _ (.inr ⟨y, hm⟩))
  refine ⟨⟨fun a ao e => ⟨(hI.hg.hr a ao e).1, fun hx => ?_⟩, fun a e => ⟨fun hx => ?_, (hI.hg.ow a e).2⟩, hI.hg.bb, hI.hg.al⟩, ?_, fun c hc => ?_⟩
  · rcases st.rd a (some_ne e) with z | z
    · cases q : H.rd a with
      | none => exact z q
      | some ao' => exact (hF.hg.hr _ _ q).2 hx
    · exact exal a hx z
  · rcases st.own a e with z | z
    · exact noown a hx z
    · exact exal a hx z
  · obtain ⟨m, hm, hl⟩ := hF.ns
    refine ⟨m, hm.at' hL, fun i y av h1 h2 => ?_⟩
    obtain ⟨v, q1, q2⟩ := hl i y av h1 h2
    rcases q2 with q2 | ⟨b1, c, b2, ⟨oc, b3, b4⟩⟩
    · exact ⟨v, q1, .inl q2⟩
    · by_cases hin : inC cl c
      · obtain ⟨y', hy'⟩ := hin
        obtain ⟨z1, z2⟩ := I.sees y' c hy'
        have : y' = y := name_of_addr ok.apart (mem_of_lookup z1) (mem_of_lookup b2)
        subst this
        obtain ⟨k, hk⟩ := List.getElem?_of_mem z2
        obtain ⟨i', w1, w2⟩ := I.idx k y' hk
        have : i' = i := nodup_get ok.nd w2 h1
        subst this
        obtain ⟨m', hm', hl'⟩ := hI.ns
        obtain ⟨v', u1, u2⟩ := hl' (k + 1) y' av (by show (x :: frs)[k + 1]? = _; simpa using hk) (by
          show (o' :: fvals fi loc)[k + 1]? = _
          have h2' : loc[i']? = some (some av) := h2
          simp [fvals, w1, h2'])
        refine ⟨v', u1, .inr ⟨b1, c, b2, ?_⟩⟩
        rcases u2 with ⟨u2, _⟩ | ⟨_, c', u3, u4⟩
        · rcases I.free y' z2 with f | ⟨f, _⟩
          · rw [show (compEnvC scope cl C F.env).kindOf y' = _ from u2] at f; cases f
          · rw [show (compEnvC scope cl C F.env).kindOf y' = _ from u2] at f; cases f
        · have e3 : (y', c') ∈ cl := mem_of_lookup u3
          have := (I.sees y' c' e3).1
          rw [z1] at this; cases this
          exact u4
      · exact ⟨v, q1, .inr ⟨b1, c, b2, oc, cellk _ _ (mem_of_lookup b2) hin _ b3, b4⟩⟩
  · by_cases hin : inC cl c.2
    · obtain ⟨y', hy'⟩ := hin
      exact hI.cells (y', c.2) hy'
    · obtain ⟨v, o, q1, q2⟩ := hF.cells c hc
      exact ⟨v, o, cellk c.1 _ hc hin _ q1, q2⟩
theorem HStep.back {F : Fm} {scope : Scope} {cl : List (Str × Addr)} {C : Addr} {nm : List Str} {H₀ H H' : Hp} {h₀ h h' : Heap} (hcl : ∀ y c, (y, c) ∈ cl → ∃ z, (z, c) ∈ F.env.cells) (hC : h₀.get? C = none) (x : HStep F.exm H₀ h₀ H h) (y : HStep (F.comp scope cl C nm).exm H h H' h') : HStep F.exm H₀ h₀ H' h' := by
  refine ⟨fun b o e n1 n2 => y.keep b o (x.keep b o e n1 n2) (fun h => ?_) fun q => ?_, fun b e => y.alive b (x.alive b e), fun a e => ?_, fun a e => ?_⟩
  · rcases h with h | ⟨z, h⟩
    · rw [show b = C from h, hC] at e; cases e
    · obtain ⟨z', h'⟩ := hcl _ _ h; exact n1 (.inr ⟨z', h'⟩)
  · rcases x.own b q with r | r
    · exact n2 r
    · rw [e] at r; cases r
  · rcases y.own a e with r | r
    · exact x.own a r
    · exact .inr (none_of fun o z => x.alive a (some_ne z) r)
  · rcases y.rd a e with r | r
    · exact x.rd a r
    · exact .inr (none_of fun o z => x.alive a (some_ne z) r)
noncomputable def compK (We : Pr AV) (fi : List Nat) (Q : AV → Stt → Prop) (items : List AV) (σ : Stt) : Prop :=
  items.length ≤ 1000000 ∧ ∃ J : Nat → List AV → Hp → Prop, J 0 [] σ.H ∧ (∀ j a acc H', items[j]? = some a → acc.length = j → J j acc H' → We (fun v σ₁ => σ₁.loc = some a :: fvals fi σ.loc ∧ J (j + 1) (acc ++ [v]) σ₁.H) ⟨some a :: fvals fi σ.loc, H'⟩) ∧
    ∀ acc H', acc.length = items.length → J items.length acc H' → newK (.list acc) Q ⟨σ.loc, H'⟩
structure CompOk (F : Fm) (scope : Scope) (cl : List (Str × Addr)) (x : Str) (frs : List Str) (fi : List Nat) : Prop where
  hclos : closureFor scope F.env = pure cl
  hcell : ∀ y ∈ scope.names, y.2 ≠ .cell
  hkind : scope.kind = .function
  hnames : ∀ y ∈ scope.names, y.2 = .local → scope.names.lookup y.1 = some .local
  hx : scope.names.lookup x = some .local
  sees : ∀ y c, (y, c) ∈ cl → F.env.cells.lookup y = some c ∧ y ∈ frs
  cls : cl.Pairwise fun a b => a.2 ≠ b.2
  free : ∀ C, ∀ y ∈ frs, ((compEnvC scope cl C F.env).kindOf y = some .cell ∨ ((compEnvC scope cl C F.env).kindOf y = some .free ∧ (y == ("__classdict__" : Str)) = false)) ∧ (cl.lookup y).isSome = true
  idx : ∀ (k : Nat) (y : Str), frs[k]? = some y → ∃ i, fi[k]? = some i ∧ F.nm[i]? = some y
  len : fi.length = frs.length
  nd : (x :: frs).Nodup
  outk : ∀ y ∈ frs, F.env.kindOf y ≠ some .local
theorem comp_run {F : Fm} (ok : F.Ok) {elt iter : Expr} {x : Str} {px : Pos} {scope : Scope} {pos : Pos} {cl : List (Str × Addr)} {frs : List Str} {fi : List Nat} (K : CompOk F scope cl x frs fi) {We : Pr AV} (he : ∀ C, TrE (F.comp scope cl C (x :: frs)) elt We)
    {σ : Stt} {s : Shared} {Q : AV → Stt → Prop} {it : Value} {s₂ : Shared} (hg : Gd F σ s) (h₂ : ItPost F (fun items => compK We fi Q items) σ s it s₂) {RR : Value → Addr → Result → Shared → Prop}
    (hRR : ∀ D C acc ys σ₃ s₃, σ₃.H.rd D = none → s.heap.get? D = none → s.heap.get? C = none → D ≠ C → F.g.B.get? C = none → ¬ F.exm C → ¬ σ₃.H.own C → σ₃.H.rd C = none → ¬ F.exm D → F.g.B.get? D = none → (∃ m, s₃.heap.Ns C m) → s₃.heap.PlainList D ys.toArray → VRs ys acc → acc.length ≤ 1000000 → Gd F σ₃ s₃ → Sp F σ s σ₃ s₃ → newK (.list acc) Q σ₃ → RR (.ref D) C (.ok .next) s₃) :
    wpAny F.M F.A (newList []) (fun acc s₃ => wpAny F.M F.A (newFunctionEnv scope F.env.globals cl [] F.env.qual none .none (some F.env)) (fun cenv s₄ =>
      codeAny F.M F.A (.compStart (.ListComp elt [⟨.Name x px, iter, [], 0⟩] scope pos) 0 it acc { cenv with scope := relabel scope F.env }) (RR acc cenv.locals) s₄) (fun _ _ => False) s₃) (fun _ _ => False) s₂ := by
  obtain ⟨I, fp, wr, P, St, items, σ₂, rfl, W, hst, hfp, hal, hwr, hP, g₂, st₂, hrd, hlen, J, hJ0, hJt, hJe⟩ := h₂
  obtain ⟨loc, H₂⟩ := σ₂
  obtain ⟨hclos, hcell, hkind, hnames, hx, sees, cls, free, idx, len, nd, outk⟩ := K
  refine wpAny_newObj_type (wpAny_newFunctionEnv hcell (by intro y hy; simp at hy) (fun h₁ hns₁ hsb₁ => ?_) hkind)
  dsimp only at hns₁ hsb₁ ⊢
  have gD₀ := fresh_size s₂.heap
  generalize hH2 : s₂.heap.push { cls := .type "list", dict := none, data := .seq ([] : List Value).toArray } = H2 at hns₁ hsb₁ ⊢
  have hC : H2.objs.size = s₂.heap.objs.size + 1 := by rw [← hH2, Heap.size_push]
  have gC₀ : s₂.heap.get? H2.objs.size = none := none_of fun o q => by have := Heap.lt_size q; rw [hC] at this; exact absurd this (Nat.not_lt.mpr (Nat.le_succ _))
  have hDC : s₂.heap.objs.size ≠ H2.objs.size := by rw [hC]; exact Nat.ne_of_lt (Nat.lt_succ_self _)
  have old : ∀ b o, s₂.heap.get? b = some o → h₁.get? b = some o := fun b o e => hsb₁.extBut b o (fun z => by rw [z, gC₀] at e; cases e) (Heap.get?_push_of_some _ (hH2 ▸ Heap.get?_push_of_some _ e))
  have hacc₀ : h₁.PlainList s₂.heap.objs.size ([] : List Value).toArray := ⟨_, hsb₁.extBut _ _ hDC (Heap.get?_push_of_some _ (hH2 ▸ Heap.get?_push_size _ rfl))⟩
  have hBC : F.g.B.objs.size ≤ H2.objs.size := by
    obtain ⟨m, hm, _⟩ := g₂.ns
    rw [hC]
    exact Nat.le_trans ok.Lb (Nat.le_trans (Nat.le_of_lt hm.lt) (Nat.le_succ _))
  generalize s₂.heap.objs.size = D at *
  generalize H2.objs.size = C at *
  have exal : ∀ b, F.exm b → s₂.heap.get? b ≠ none := fun b hb => exm_alive g₂ hb
  have nexC : ¬ F.exm C := fun z => exal C z gC₀
  have nexD : ¬ F.exm D := fun z => exal D z gD₀
  have gone : ∀ b, s₂.heap.get? b = none → s.heap.get? b = none := fun b e => none_of fun o z => absurd e (st₂.hs.alive _ (some_ne z))
  have noB : ∀ b, s₂.heap.get? b = none → F.g.B.get? b = none := fun b e => none_of fun o q => by rw [g₂.hg.bb _ _ q] at e; cases e
  have clx : ∀ y c, (y, c) ∈ cl → (y, c) ∈ F.env.cells := fun y c hm => mem_of_lookup (sees y c hm).1
  have inn : Inn F scope cl C x frs fi := ⟨sees, fun y hy => (free C y hy).1, idx, len, fun z => nexC (.inl z), fun y c hm z => nexC (.inr ⟨y, z ▸ hm⟩)⟩
  have exin : ∀ b, (F.comp scope cl C (x :: frs)).exm b ↔ (b = C ∨ inC cl b) := fun b => Iff.rfl
  have inF : ∀ b, inC cl b → F.exm b := fun b ⟨y, hy⟩ => .inr ⟨y, clx y b hy⟩
  have nexD' : ¬ (F.comp scope cl C (x :: frs)).exm D := fun h => by
    rcases h with h | h
    · exact hDC h
    · exact nexD (inF D h)
  have ok' : (F.comp scope cl C (x :: frs)).Ok := by
    refine ⟨ok.g, ok.hh, ok.room, ok.units, hkind, ok.glob, ok.bui, ?_, fun c hc => ?_, cls, nd⟩
    · exact hBC
    · refine ⟨(ok.Cb _ (clx c.1 c.2 hc)).1, fun z => inn.Cc c.1 c.2 (clx c.1 c.2 hc) z⟩
  have hDf : D ∉ fp := fun h => hal _ _ hst D h gD₀
  have hCf : C ∉ fp := fun h => hal _ _ hst C h gC₀
  have hDw : D ∉ wr := fun h => hDf (W.sub _ h)
  have hCw : C ∉ wr := fun h => hCf (W.sub _ h)
  have wrx : ∀ b ∈ wr, ¬ F.exm b := fun b h => (hfp b (W.sub b h)).1
  have fpx' : ∀ b ∈ fp, ¬ (F.comp scope cl C (x :: frs)).exm b := fun b h z => by
    rcases z with z | z
    · exact hCf ((show b = C from z) ▸ h)
    · exact (hfp b h).1 (inF b z)
  have wrx' : ∀ b ∈ wr, ¬ (F.comp scope cl C (x :: frs)).exm b := fun b h => fpx' b (W.sub b h)
  have wrB : ∀ b ∈ wr, F.g.B.get? b = none := fun b h => none_of fun o q => by have := hg.hg.bb _ _ q; rw [hwr b h] at this; cases this
  have gF₁ : Gd F ⟨loc, H₂⟩ { s₂ with heap := h₁, toks := s₂.toks + ([] : List (Str × Value)).length } := g₂.grow old
  have sF₁ : Sp F σ s ⟨loc, H₂⟩ { s₂ with heap := h₁, toks := s₂.toks + ([] : List (Str × Value)).length } := st₂.trans (Sp.grow old)
  have rdC : H₂.rd C = none := none_of fun ao z => (g₂.hg.hr _ _ z).1.alive gC₀
  have rdD : H₂.rd D = none := none_of fun ao z => (g₂.hg.hr _ _ z).1.alive gD₀
  have owD : ¬ H₂.own D := fun z => g₂.hg.al _ z gD₀
  have gI₁ : Gd (F.comp scope cl C (x :: frs)) ⟨none :: fvals fi loc, H₂⟩ { s₂ with heap := h₁, toks := s₂.toks + ([] : List (Str × Value)).length } := by
    refine ⟨⟨fun a ao e => ⟨(gF₁.hg.hr a ao e).1, fun hx => ?_⟩, fun a e => ⟨fun hx => ?_, (gF₁.hg.ow a e).2⟩, gF₁.hg.bb, gF₁.hg.al⟩, ⟨_, hns₁, fun i y av h1 h2 => ?_⟩, fun c hc => gF₁.cells c (clx c.1 c.2 hc)⟩
    · rcases hx with hx | hx
      · rw [show a = C from hx, rdC] at e; cases e
      · exact (gF₁.hg.hr a ao e).2 (inF a hx)
    · rcases hx with hx | hx
      · exact g₂.hg.al _ e (by rw [show a = C from hx]; exact gC₀)
      · exact (gF₁.hg.ow a e).1 (inF a hx)
    · cases i with
      | zero => cases h2
      | succ k =>
        have hk : frs[k]? = some y := by
          have : (x :: frs)[k + 1]? = some y := h1
          simpa using this
        obtain ⟨i', w1, w2⟩ := idx k y hk
        have hy : y ∈ frs := List.mem_of_getElem? hk
        have h3 : loc[i']? = some (some av) := by
          have h2' : (none :: fvals fi loc)[k + 1]? = some (some av) := h2
          have h4 : (fvals fi loc)[k]? = some (some av) := by simpa using h2'
          simp only [fvals, List.getElem?_map, w1, Option.map_some, Option.some.injEq] at h4
          cases q : loc[i']? with
          | none => rw [q] at h4; cases h4
          | some z => rw [q] at h4; rw [show z = some av from h4]
        obtain ⟨m, hm, hl⟩ := gF₁.ns
        obtain ⟨v, q1, q2⟩ := hl i' y av w2 h3
        refine ⟨v, q1, ?_⟩
        rcases q2 with ⟨q2, _⟩ | ⟨_, c, q3, q4⟩
        · exact absurd q2 (outk y hy)
        · obtain ⟨f1, f2⟩ := free C y hy
          obtain ⟨c', hc'⟩ := Option.isSome_iff_exists.mp f2
          have := (sees y c' (mem_of_lookup hc')).1
          rw [q3] at this; cases this
          exact .inr ⟨f1, c, hc', q4⟩
  have Lal : ∀ {H' : Hp} {s' : Shared}, Gd F ⟨loc, H'⟩ s' → s'.heap.get? F.env.locals ≠ none := fun h => exm_alive h (.inl rfl)
  have hclF : ∀ y c, (y, c) ∈ cl → ∃ z, (z, c) ∈ F.env.cells := fun y c h => ⟨y, clx y c h⟩
  have gC : s.heap.get? C = none := gone C gC₀
  have gDs : s.heap.get? D = none := gone D gD₀
  have loop : ∀ s₃ : Shared, s₃ = { s₂ with heap := h₁, toks := s₂.toks + ([] : List (Str × Value)).length } →
      codeAny F.M F.A (.compLoop (.ListComp elt [⟨.Name x px, iter, [], 0⟩] scope pos) 0 (.ref I) (.ref D) (compEnvC scope cl C F.env)) (RR (.ref D) C) s₃ := by
    rintro s₃ rfl
    refine codeAny_compLoop_tests (R := RR (.ref D) C) (fun n s' => ∃ j acc ys H' o, n + j = items.length + 1 ∧ j ≤ items.length ∧ acc.length = j ∧ St j s'.heap ∧ Gd F ⟨loc, H'⟩ s' ∧ Sp F σ s ⟨loc, H'⟩ s' ∧ Gd (F.comp scope cl C (x :: frs)) ⟨o :: fvals fi loc, H'⟩ s' ∧
      (∀ b ∈ fp, ¬ H'.own b) ∧ (∀ b ∈ wr, H'.rd b = none) ∧ s'.heap.PlainList D ys.toArray ∧ VRs ys acc ∧ ¬ H'.own D ∧ H'.rd D = none ∧ J j acc H') ?_ (items.length + 1)
      ⟨0, [], [], H₂, none, rfl, Nat.zero_le _, rfl, W.frame _ _ _ hst fun b _ o e => old b o e, gF₁, sF₁, gI₁, fun b h => (hfp b h).2, hrd, hacc₀, .nil, owD, rdD, hJ0⟩
    rintro n s' ⟨j, acc, ys, H', o, hn, hj, hac, hst', gF, sF, gI, how, hrd', hpl, hys, oD, rD, hJ⟩
    by_cases hlt : j < items.length
    · refine W.item j _ _ _ hlt hst' fun v h' tk hPv hst₁ hk₁ => ?_
      obtain ⟨a, ha, hva⟩ := hP j v hPv hlt
      have gT := gF.turned ok (fun b h => how b (W.sub b h)) hrd' wrB wrx (tk := tk) hk₁
      have sT := sF.turned hwr (tk := tk) hk₁
      have iT := gI.turned ok' (fun b h => how b (W.sub b h)) hrd' wrB wrx' (tk := tk) hk₁
      refine PySem.wpAny_assign_Name (wpAny_mono (store_ok ok' (x := x) (i := 0) Lk.z (.inl (lookup_relabel_local hx)) hva iT (Q := fun _ s₃ => Gd (F.comp scope cl C (x :: frs)) ⟨some a :: fvals fi loc, H'⟩ s₃ ∧ Sp (F.comp scope cl C (x :: frs)) ⟨o :: fvals fi loc, H'⟩ { s' with heap := h', toks := tk } ⟨some a :: fvals fi loc, H'⟩ s₃) fun s₃ g₃ st₃ => ⟨g₃, st₃⟩) (fun _ s₃ ⟨g₃, st₃⟩ => ?_) fun _ _ x => x.elim)
      have gF₃ := inner_step ok inn gT st₃ g₃ iT (Lal gT)
      have sF₃ : Sp F σ s ⟨loc, H'⟩ s₃ := ⟨by obtain ⟨h1, t1, e1⟩ := sT.sh; obtain ⟨h2, t2, e2⟩ := st₃.sh; exact ⟨h2, t2, by rw [e2, e1]⟩, sT.hs.back hclF gC st₃.hs⟩
      rw [List.forIn_nil]
      refine wpAny_pure ?_
      rw [if_pos rfl]
      refine wpAny_mono (he C ok' _ _ _ g₃ (hJt j a acc H' ha hac hJ)) (fun u s₄ ⟨b, σ₄, r₄, ⟨hloc₄, hJ₄⟩, g₄, st₄⟩ => ?_) fun _ _ x => x.elim
      obtain ⟨loc₄, H₄⟩ := σ₄
      dsimp only at hloc₄ hJ₄
      subst hloc₄
      have gF₄ := inner_step ok inn gF₃ st₄ g₄ g₃ (Lal gF₃)
      have sF₄ : Sp F σ s ⟨loc, H₄⟩ s₄ := ⟨by obtain ⟨h1, t1, e1⟩ := sF₃.sh; obtain ⟨h2, t2, e2⟩ := st₄.sh; exact ⟨h2, t2, by rw [e2, e1]⟩, sF₃.hs.back hclF gC st₄.hs⟩
      have pl₁ : h'.PlainList D ys.toArray := hpl.at fun o e => hk₁ _ o hDw e
      have pl₃ : s₃.heap.PlainList D ys.toArray := pl₁.at fun o e => st₃.hs.keep D o e nexD' oD
      have pl₄ : s₄.heap.PlainList D ys.toArray := pl₃.at fun o e => st₄.hs.keep D o e nexD' oD
      have alD₃ : s₃.heap.get? D ≠ none := by obtain ⟨q, e⟩ := pl₃; exact some_ne e
      have oD₄ : ¬ H₄.own D := fun z => (st₄.hs.own D z).elim oD alD₃
      have rD₄ : H₄.rd D = none := none_of fun ao z => (st₄.hs.rd D (some_ne z)).elim (fun y => y rD) alD₃
      have al₁ : ∀ b ∈ fp, h'.get? b ≠ none := hal _ _ hst₁
      have al₃ : ∀ b ∈ fp, s₃.heap.get? b ≠ none := fun b hb => st₃.hs.alive b (al₁ b hb)
      have ow₄ : ∀ b ∈ fp, ¬ H₄.own b := fun b hb z => (st₄.hs.own b z).elim (how b hb) (al₃ b hb)
      have rd₄ : ∀ b ∈ wr, H₄.rd b = none := fun b hb => none_of fun ao z => (st₄.hs.rd b (some_ne z)).elim (fun y => y (hrd' b hb)) (al₃ b (W.sub b hb))
      have hst₃ : St (j + 1) s₃.heap := W.frame _ _ _ hst₁ fun b hb o e => st₃.hs.keep b o e (fpx' b hb) (how b hb)
      have hst₄ : St (j + 1) s₄.heap := W.frame _ _ _ hst₃ fun b hb o e => st₄.hs.keep b o e (fpx' b hb) (how b hb)
      have hysl := hys.length
      refine wpAny_list_append_plain pl₄ (fun h₅ hl₅ hs₅ => ?_) (by rw [List.size_toArray, hysl, sizeLine_eq]; (first | lia | omega))
      have k₅ : ∀ b o, b ∉ [D] → s₄.heap.get? b = some o → h₅.get? b = some o := fun b o hb e => hs₅.extBut b o (fun z => hb (z ▸ .head _)) e
      have gF₅ := gF₄.turned ok (wr := [D]) (fun b hb => by rw [List.mem_singleton.mp hb]; exact oD₄) (fun b hb => by rw [List.mem_singleton.mp hb]; exact rD₄) (fun b hb => by rw [List.mem_singleton.mp hb]; exact noB D gD₀) (fun b hb => by rw [List.mem_singleton.mp hb]; exact nexD) (tk := s₄.toks) k₅
      have gI₅ := g₄.turned ok' (wr := [D]) (fun b hb => by rw [List.mem_singleton.mp hb]; exact oD₄) (fun b hb => by rw [List.mem_singleton.mp hb]; exact rD₄) (fun b hb => by rw [List.mem_singleton.mp hb]; exact noB D gD₀) (fun b hb => by rw [List.mem_singleton.mp hb]; exact nexD') (tk := s₄.toks) k₅
      have sF₅ := sF₄.turned (wr := [D]) (fun b hb => by rw [List.mem_singleton.mp hb]; exact gDs) (tk := s₄.toks) k₅
      refine ⟨n - 1, by (first | lia | omega), j + 1, acc ++ [b], ys ++ [u], H₄, some a, by (first | lia | omega), hlt, by simp [hac], W.frame _ _ _ hst₄ fun b hb o e => k₅ b o (fun z => hDf (List.mem_singleton.mp z ▸ hb)) e, gF₅, sF₅, gI₅, ow₄, rd₄, ?_, hys.snoc r₄, oD₄, rD₄, hJ₄⟩
      have : (ys ++ [u]).toArray = ys.toArray.push u := by simp
      rw [this]; exact hl₅
    · have hje : j = items.length := by (first | lia | omega)
      subst hje
      refine W.done _ _ _ hst' fun h' tk hk₁ => ?_
      have gT := gF.turned ok (fun b h => how b (W.sub b h)) hrd' wrB wrx (tk := tk) hk₁
      have sT := sF.turned hwr (tk := tk) hk₁
      have iT := gI.turned ok' (fun b h => how b (W.sub b h)) hrd' wrB wrx' (tk := tk) hk₁
      obtain ⟨m, hm, _⟩ := iT.ns
      refine hRR D C acc ys ⟨loc, H'⟩ _ rD gDs gC hDC (noB C gC₀) nexC (fun z => (gI.hg.ow C z).1 (.inl rfl)) (none_of fun ao z => (gI.hg.hr C ao z).2 (.inl rfl)) nexD (noB D gD₀) ⟨m, hm⟩ (hpl.at fun o e => hk₁ _ o hDw e) hys (by (first | lia | omega)) gT sT (hJe acc H' hac hJ)
  exact codeAny_compStart_list (loop _ rfl) (W.self 0 _ _ _ (W.frame _ _ _ hst fun b _ o e => old b o e) (loop _ rfl))
theorem Sp.put {F : Fm} {σ σ' : Stt} {s s' : Shared} (x : Sp F σ s σ' s') {r : Addr} {ao : AObj} (h : s.heap.get? r = none) : Sp F σ s ⟨σ'.loc, σ'.H.put r ao⟩ s' := by
  obtain ⟨sh, hs⟩ := x
  refine ⟨sh, ⟨hs.keep, hs.alive, fun a e => ?_, fun a e => ?_⟩⟩
  · rcases e with rfl | e
    · exact .inr h
    · exact hs.own a e
  · dsimp only [Hp.put] at e
    split at e
    · subst_vars; exact .inr h
    · exact hs.rd a e
theorem tr_comp {F : Fm} {elt iter : Expr} {x : Str} {px : Pos} {scope : Scope} {pos : Pos} {cl : List (Str × Addr)} {frs : List Str} {fi : List Nat} (K : CompOk F scope cl x frs fi) {WI : Pr (List AV)} {We : Pr AV} (hI : TrI F iter WI) (he : ∀ C, TrE (F.comp scope cl C (x :: frs)) elt We)
    (hs : ∀ x, foldedSetIterable iter F.env x = pure x := by intro _; with_unfolding_all rfl) : TrE F (.ListComp elt [⟨.Name x px, iter, [], 0⟩] scope pos) (fun Q => WI fun items => compK We fi Q items) := by
  intro ok σ s Q hg hW
  rw [eval_ListComp]
  refine wpAny_comprehension_free (use := none) (cl := cl) rfl hs K.hclos K.hkind K.hnames (wpAny_mono (hI ok σ s _ hg hW) (fun xv s₁ h₁ => wpAny_mono h₁ (fun it s₂ h₂ =>
    comp_run ok K he hg h₂ (RR := fun acc C => compPost F.M F.A (fun _ _ => False) none (Pst F VR Q σ s) acc C) ?_) fun _ _ x => x.elim) fun _ _ x => x.elim)
  intro D C acc ys σ₃ s₃ rD gD gC hDC BC xC oC rC xD BD hm pl hys hl g₃ st₃ hk
  obtain ⟨m, hm⟩ := hm
  refine ⟨m, hm, fun h' hsb => ?_⟩
  have k₅ : ∀ b o, b ∉ [C] → s₃.heap.get? b = some o → h'.get? b = some o := fun b o hb e => hsb.extBut b o (fun z => hb (z ▸ .head _)) e
  have g₄ := g₃.turned ok (wr := [C]) (fun b hb => by rw [List.mem_singleton.mp hb]; exact oC) (fun b hb => by rw [List.mem_singleton.mp hb]; exact rC) (fun b hb => by rw [List.mem_singleton.mp hb]; exact BC) (fun b hb => by rw [List.mem_singleton.mp hb]; exact xC) (tk := s₃.toks) k₅
  have st₄ := st₃.turned (wr := [C]) (fun b hb => by rw [List.mem_singleton.mp hb]; exact gC) (tk := s₃.toks) k₅
  exact Pst.of VR.r (hk D rD) (g₄.put (ao := .list acc) ⟨ys, pl.at fun o e => hsb.extBut _ o hDC e, hys⟩ xD BD) (st₄.put gD)
theorem tr_asgcomp {F : Fm} {elt iter : Expr} {x y : Str} {px py q : Pos} {scope : Scope} {pos : Pos} {cl : List (Str × Addr)} {frs : List Str} {fi : List Nat} {i : Nat} (K : CompOk F scope cl x frs fi) {WI : Pr (List AV)} {We : Pr AV} (hI : TrI F iter WI) (he : ∀ C, TrE (F.comp scope cl C (x :: frs)) elt We)
    (hi : Lk F.nm y i) (hk : Storable F.env y) (hsw : swapsWith (.ListComp elt [⟨.Name x px, iter, [], 0⟩] scope pos) (some (.Name y py)) q.line F.env = pure true)
    (hs : ∀ x, foldedSetIterable iter F.env x = pure x := by intro _; with_unfolding_all rfl) : TrS F (.Assign [.Name y py] (.ListComp elt [⟨.Name x px, iter, [], 0⟩] scope pos) q) (fun Q => WI fun items => compK We fi (fun v => letK i v Q) items) := by
  intro ok σ s Q hg hW
  rw [exec_Assign_Name_used _ _ _ _ hsw]
  refine wpAny_bind (wpAny_standAt (wpAny_bind ?_))
  show wpAny _ F.A (do let _ ← comprehension (.ListComp elt [⟨.Name x px, iter, [], 0⟩] scope pos) scope F.env _ (newList []) false (eval iter F.env) (some (assign (.Name y py) F.env))) _ _ s
  refine wpAny_bind (wpAny_mono (wpAny_comprehension_free (use := some (assign (.Name y py) F.env)) (Q := fun _ s' => Pst F FR Q σ s .next s') (cl := cl) rfl hs K.hclos K.hkind K.hnames
    (wpAny_mono (hI ok σ s _ hg hW) (fun xv s₁ h₁ => wpAny_mono h₁ (fun it s₂ h₂ =>
      comp_run ok K he hg h₂ (RR := fun acc C => compPost F.M F.A (fun _ _ => False) (some (assign (.Name y py) F.env)) (fun _ s' => Pst F FR Q σ s .next s') acc C) ?_) fun _ _ x => x.elim) fun _ _ x => x.elim)) (fun _ s' hq => wpAny_pure (wpAny_pure hq)) fun _ _ x => x)
  intro D C acc ys σ₃ s₃ rD gD gC hDC BC xC oC rC xD BD hm pl hys hl g₃ st₃ hk'
  obtain ⟨m, hm⟩ := hm
  have g₄ := g₃.put (ao := .list acc) ⟨ys, pl, hys⟩ xD BD
  have st₄ := st₃.put (ao := .list acc) gD
  have nown : ¬ (σ₃.H.put D (.list acc)).own C := fun z => z.elim (fun z => hDC z.symm) oC
  have nrd : (σ₃.H.put D (.list acc)).rd C = none := by
    show (if C = D then _ else σ₃.H.rd C) = none
    rw [if_neg (Ne.symm hDC)]; exact rC
  show wpAny F.M F.A (assign (.Name y py) F.env (.ref D)) _ _ s₃
  refine PySem.wpAny_assign_Name (store_ok ok hi hk VR.r g₄ fun s₅ g₅ st₅ => ?_)
  have hm₅ : s₅.heap.Ns C m := hm.at' fun o e => st₅.hs.keep C o e xC nown
  refine ⟨m, hm₅, fun h' hsb => ?_⟩
  have k₅ : ∀ b o, b ∉ [C] → s₅.heap.get? b = some o → h'.get? b = some o := fun b o hb e => hsb.extBut b o (fun z => hb (z ▸ .head _)) e
  have g₆ := g₅.turned ok (wr := [C]) (fun b hb => by rw [List.mem_singleton.mp hb]; exact nown) (fun b hb => by rw [List.mem_singleton.mp hb]; exact nrd) (fun b hb => by rw [List.mem_singleton.mp hb]; exact BC) (fun b hb => by rw [List.mem_singleton.mp hb]; exact xC) (tk := s₅.toks) k₅
  have st₆ := (st₄.trans st₅).turned (wr := [C]) (fun b hb => by rw [List.mem_singleton.mp hb]; exact gC) (tk := s₅.toks) k₅
  exact Pst.of FR.n (hk' D rD) g₆ st₆
theorem callP_defC {g : Gs} {D : Nat} {f : Addr} {args : List AV} {H : Hp} {Q : AV → Hp → Prop} {fd : FuncData} {oc : Value} {od : Option Addr} {osl : Array (Option Value)} {body : List Stmt} (hK : g.K.lookup f = some ⟨oc, od, .func fd, osl⟩) (hcd : codeIn g.K fd.code fd.qualname = true)
    (hbody : fd.body = .stmts body) (hclo : fd.closure = []) (hgl : fd.globals = mainGlobals) (hbi : fd.builtins = builtinsNs) (ps : List Str) (more : List Str) (hnd : (ps ++ more).Nodup) (hl : ps.length = args.length)
    (hkind : ∀ n, ∀ x ∈ ps, fd.scope.names.lookup x = some .local ∨ (fd.scope.names.lookup x = some .cell ∧ ((cellsFrom n fd.scope.names []).lookup x).isSome = true))
    (hcn : ((cellsFrom 0 fd.scope.names []).map (·.1)).Nodup)
    (hbind : ∀ vs, VRs vs args → bindArgs fd ⟨vs, []⟩ = pure (ps.zip vs)) {Wb : Pr AF}
    (hW : ∀ A L, TrB ⟨g, D, A, callEnvC fd L f, ps ++ more⟩ body Wb)
    (l₀ : List (Option AV)) (hl₀ : args.map some ++ List.replicate more.length none = l₀)
    (hVC : Wb (retK H Q) ⟨l₀, H⟩)
    (hco : fd.scope.isCoroutine = false := by rfl) (hgen : fd.scope.isGenerator = false := by rfl) (hk : fd.scope.kind = .function := by rfl) : callP g (D + 1) f args H Q := by
  subst hl₀
  exact callP_def hK hcd hbody hclo hgl hbi ps more hnd hl hkind hcn hbind hW hVC hco hgen hk
noncomputable def retC2 (H₀ : Hp) (cl : List (Str × Addr)) (n : Nat) (cavs : List AV) (Q : AV → Hp → Prop) (f : AF) (σ : Stt) : Prop := match f with
  | .ret v => (∀ i av, cavs[i]? = some av → σ.loc[n + i]? = some (some av)) ∧ ((∀ a ao, σ.H.rd a = some ao → ¬ inC cl a) → Q v (σ.H.unhide H₀ cl))
  | _ => False
theorem callP_clo2 {g : Gs} {D : Nat} {f : Addr} {args : List AV} {H : Hp} {Q : AV → Hp → Prop} {fd : FuncData} {cl : List (Str × Addr)} {cavs : List AV} {ps more : List Str} {body : List Stmt} (C : CloOk g f args H fd cl cavs ps more) (hbody : fd.body = .stmts body) {Wb : Pr AF}
    (hW : ∀ A L, TrB ⟨g, D, A, callEnv fd L f, ps ++ (cl.map (·.1) ++ more)⟩ body Wb)
    (hVC : Wb (retC2 H cl ps.length cavs Q) ⟨args.map some ++ (cavs.map some ++ List.replicate more.length none), H.hide cl⟩) : callP g (D + 1) f args H Q := by
  obtain ⟨⟨o, hf, hfd⟩, ⟨c, ocd, vs, t, hcode, hc, hcd, hvs⟩, hclo, hgl, hbi, hC, hap, hnd', hnd, hl, hkind, hfree, hcell, hbind, hco, hgen, hk⟩ := C
  refine ⟨fun ok A s vals hh hroom hun hg hsz hv => ?_⟩
  obtain ⟨pp, loose, mean, mg, mb, T⟩ := ok.T
  have hps : (ps.zip vals).map (·.1) = ps := by rw [List.map_fst_zip]; rw [hl, hv.length]; exact Nat.le_refl _
  refine (codeAny_call_def (R := CallR g H Q s) (o := o) (by omega) (hg.hr _ _ hf).1 hfd (T.nolimit.keeps hg.bb) ⟨c, ocd, vs, t, hcode, (hg.hr _ _ hc).1, hcd, hvs⟩ hbody (.of_eq (hbind vals hv)) hcell (fun x hx => hkind _ ?_) (fun h₁ hns kk => ?_) hco hgen hk)
  · have := List.mem_map_of_mem (f := (·.1)) hx
    rwa [hps] at this
  · obtain ⟨fok, g₀, fin⟩ := clo_core (D := D) (f := f) (Q := Q) (A := A) (tk := s.toks + (ps.zip vals).length) ok hh hroom hun hg hsz hv hclo hgl hbi hC hap hnd' ps more hnd hl hkind hfree hk hns kk
    refine wpAny_mono (hW _ _ fok _ _ _ g₀ hVC) (fun fl s' h => ?_) fun _ _ x => x.elim
    obtain ⟨a, σ', r, hret, g', st⟩ := h
    have hin : ∀ a ao, σ'.H.rd a = some ao → ¬ inC cl a := fun a ao e hx => (g'.hg.hr a ao e).2 (.inr (by
      show ∃ x, (x, a) ∈ fd.closure
      rw [hclo]; exact hx))
    cases a with
    | ret v => obtain ⟨u, rfl, hu⟩ := r; exact fin σ' s' _ _ g' st hret.1 hu (hret.2 hin)
    | next => exact hret.elim
    | brk => exact hret.elim
    | cont => exact hret.elim
theorem hide_rd {H : Hp} {cl : List (Str × Addr)} {cavs : List AV} (C : CellsRd H cl cavs) {a : Addr} {ao : AObj} (h : H.rd a = some ao) (hn : ∀ x, ao ≠ .cell x) : (H.hide cl).rd a = some ao := by
  dsimp only [Hp.hide]
  rw [if_neg]
  · exact h
  rintro ⟨x, hx⟩
  obtain ⟨i, hi⟩ := List.getElem?_of_mem hx
  obtain ⟨av, _, z, _⟩ := C.at_ i x a hi
  rw [h] at z
  exact hn av (Option.some.inj z)
theorem CellsRd.mono {H H' : Hp} {cl : List (Str × Addr)} {cavs : List AV} (C : CellsRd H cl cavs) (s : H.Sub H') : CellsRd H' cl cavs :=
  ⟨C.len, fun i x c h => by obtain ⟨av, a, b, d⟩ := C.at_ i x c h; exact ⟨av, a, s.1 _ _ b, s.2.1 _ d⟩⟩
theorem CloOk.mono {g : Gs} {f : Addr} {args : List AV} {H H' : Hp} {fd : FuncData} {cl : List (Str × Addr)} {cavs : List AV} {ps more : List Str} (C : CloOk g f args H fd cl cavs ps more) (s : H.Sub H') : CloOk g f args H' fd cl cavs ps more := by
  obtain ⟨⟨o, hf, hfd⟩, ⟨c, ocd, vs, t, hcode, hc, hcd, hvs⟩, hclo, hgl, hbi, hC, hap, hnd', hnd, hl, hkind, hfree, hcell, hbind, hco, hgen, hk⟩ := C
  exact ⟨⟨o, s.1 _ _ hf, hfd⟩, ⟨c, ocd, vs, t, hcode, s.1 _ _ hc, hcd, hvs⟩, hclo, hgl, hbi, hC.mono s, hap, hnd', hnd, hl, hkind, hfree, hcell, hbind, hco, hgen, hk⟩
theorem CloOk.args {g : Gs} {f : Addr} {as as' : List AV} {H : Hp} {fd : FuncData} {cl : List (Str × Addr)} {cavs : List AV} {ps more : List Str} (C : CloOk g f as H fd cl cavs ps more) (h : as'.length = as.length) (hb : ∀ vs, VRs vs as' → bindArgs fd ⟨vs, []⟩ = pure (ps.zip vs)) : CloOk g f as' H fd cl cavs ps more := by
  obtain ⟨hf, hc, hclo, hgl, hbi, hC, hap, hnd', hnd, hl, hkind, hfree, hcell, hbind, hco, hgen, hk⟩ := C
  exact ⟨hf, hc, hclo, hgl, hbi, hC, hap, hnd', hnd, by rw [h]; exact hl, hkind, hfree, hcell, hb, hco, hgen, hk⟩
theorem unhide_sub {H H' : Hp} {cl : List (Str × Addr)} (s : (H.hide cl).Sub H') : H.Sub (H'.unhide H cl) := by
  refine ⟨fun a ao e => ?_, fun a e => .inr e, fun a e => e.elim (fun e => .inr e.2) .inl⟩
  dsimp only [Hp.unhide]
  by_cases hc : inC cl a
  · rw [if_pos hc]; exact e
  · rw [if_neg hc]
    refine s.1 a ao ?_
    dsimp only [Hp.hide]
    rw [if_neg hc]; exact e
theorem unhide_rd {H H' : Hp} {cl : List (Str × Addr)} (hin : ∀ a ao, H'.rd a = some ao → ¬ inC cl a) {a : Addr} {ao : AObj} (h : H'.rd a = some ao) : (H'.unhide H cl).rd a = some ao := by
  dsimp only [Hp.unhide]
  rw [if_neg (hin a ao h)]; exact h
theorem fnK_raw {g : Gs} {f : Addr} {o : Obj} {fd : FuncData} {H : Hp} {l : List (Option AV)} {P : Prop} (h : H.rd f = some (.raw o)) (hd : o.data = .func fd) (hn : ¬ H.own f) (k : P) : fnK g (.ref f) ⟨l, H⟩ P :=
  ⟨⟨f, rfl, fun hh exm hg ok => ⟨o, fd, (hg.hr _ _ h).1, hd, hn⟩⟩, k⟩
theorem tr_defG {g : Gs} {D : Nat} {A : Around} {env : Env} {nm : List Str} {name : Str} {params : Arguments} {body : List Stmt} {scope : Scope} {pos : Pos} {i : Nat} (c P : Addr) (clos : List (Str × Addr)) (hcode : env.code = .ref c) (hC : g.Ok → CodeHd g.B c P) (hcl : closureFor scope env = pure clos)
    (hi : Lk nm name i) (hk : Storable env name) (hd0 : params.defaults = [] := by with_unfolding_all rfl) (hk0 : params.kw_defaults = [] := by with_unfolding_all rfl) (ha : annTrees params none env = [] := by with_unfolding_all rfl) :
    TrS ⟨g, D, A, env, nm⟩ (.FunctionDef name params body [] none [] scope none name pos) (fun Q => defK P (qualnameIn env name name) (fun doc pm c' ctv => fnMade name (qualnameIn env name name) params body scope clos doc pm c' ctv) i Q) := tr_def hcode hC hcl hi hk hd0 hk0 ha
theorem tr_lamG {g : Gs} {D : Nat} {A : Around} {env : Env} {nm : List Str} {params : Arguments} {body : Expr} {scope : Scope} {pos : Pos} (c P : Addr) (clos : List (Str × Addr)) (hcode : env.code = .ref c) (hC : g.Ok → CodeHd g.B c P) (hcl : closureFor scope env = pure clos) (hdef : defaultsOf params env = ([], [])) :
    TrE ⟨g, D, A, env, nm⟩ (.Lambda params body scope pos) (fun Q => lamK P (env.qual ++ "<lambda>") (fun pm c' ctv => kla_obj "<lambda>" (env.qual ++ "<lambda>") params body scope clos pm c' ctv) Q) := tr_lam hcode hC hcl hdef
theorem callP_defXL {g : Gs} {D : Nat} {f : Addr} {args : List AV} {H : Hp} {Q : AV → Hp → Prop} {fd : FuncData} {oc : Value} {od : Option Addr} {osl : Array (Option Value)} {body : List Stmt} (hK : g.K.lookup f = some ⟨oc, od, .func fd, osl⟩) (hcd : codeIn g.K fd.code fd.qualname = true)
    (hbody : fd.body = .stmts body) (hclo : fd.closure = []) (hgl : fd.globals = mainGlobals) (hbi : fd.builtins = builtinsNs) (ps more : List Str) (hnd : (ps ++ more).Nodup) (hl : ps.length = args.length)
    (hkind : ∀ n, ∀ x ∈ ps, fd.scope.names.lookup x = some .local ∨ (fd.scope.names.lookup x = some .cell ∧ ((cellsFrom n fd.scope.names []).lookup x).isSome = true))
    (hkc : ∀ x ∈ (cellsFrom 0 fd.scope.names []).map (·.1), fd.scope.names.lookup x = some .cell)
    (hcn : ((cellsFrom 0 fd.scope.names []).map (·.1)).Nodup)
    (hbind : ∀ vs, VRs vs args → bindArgs fd ⟨vs, []⟩ = pure (ps.zip vs)) {Wb : Addr → Pr AF}
    (hW : ∀ A L, TrB ⟨g, D, A, callEnvC fd L f, ps ++ more⟩ body (Wb L))
    (l₀ : List (Option AV)) (hl₀ : args.map some ++ List.replicate more.length none = l₀)
    (hVC : ∀ L, Wb L (retX H (callEnvC fd L f).cells (ps ++ more) Q) ⟨l₀, H⟩)
    (hco : fd.scope.isCoroutine = false := by with_unfolding_all rfl) (hgen : fd.scope.isGenerator = false := by with_unfolding_all rfl) (hk : fd.scope.kind = .function := by with_unfolding_all rfl) : callP g (D + 1) f args H Q := by
  subst hl₀
  exact callP_defX hK hcd hbody hclo hgl hbi ps more hnd hl hkind hkc hcn hbind hW hVC hco hgen hk
theorem callP_clo2L {g : Gs} {D : Nat} {f : Addr} {args : List AV} {H : Hp} {Q : AV → Hp → Prop} {fd : FuncData} {cl : List (Str × Addr)} {cavs : List AV} {ps more : List Str} {body : List Stmt} (C : CloOk g f args H fd cl cavs ps more) (hbody : fd.body = .stmts body) {Wb : Pr AF}
    (hW : ∀ A L, TrB ⟨g, D, A, callEnv fd L f, ps ++ (cl.map (·.1) ++ more)⟩ body Wb)
    (l₀ : List (Option AV)) (hl₀ : args.map some ++ (cavs.map some ++ List.replicate more.length none) = l₀)
    (hVC : Wb (retC2 H cl ps.length cavs Q) ⟨l₀, H.hide cl⟩) : callP g (D + 1) f args H Q := by
  subst hl₀
  exact callP_clo2 C hbody hW hVC
theorem LN_ne_ref {ds : List Nat} {b : Addr} {vs : List AV} : LN ds ≠ .list (.ref b :: vs) := by
  intro z
  cases ds with
  | nil => cases z
  | cons d r => cases z
theorem CloOk.make {g : Gs} {f : Addr} {args : List AV} {H : Hp} {fd : FuncData} {cl : List (Str × Addr)} {cavs : List AV} {ps : List Str} (names : List (Str × NameKind)) (frs : List Str)
    (hf : ∃ o, H.rd f = some (.raw o) ∧ o.data = .func fd) (hcode : ∃ c ocd vs t, fd.code = .ref c ∧ H.rd c = some (.raw ocd) ∧ ocd.data = .fields vs ∧ vs[1]? = some (.str fd.qualname t))
    (hclo : fd.closure = cl) (hgl : fd.globals = mainGlobals) (hbi : fd.builtins = builtinsNs) (hC : CellsRd H cl cavs) (hap : cl.Pairwise fun x y => x.2 ≠ y.2)
    (hfr : cl.map (·.1) = frs) (hsn : fd.scope.names = names) (hl : ps.length = args.length) (hbind : ∀ vs, VRs vs args → bindArgs fd ⟨vs, []⟩ = pure (ps.zip vs))
    (hco : fd.scope.isCoroutine = false) (hgen : fd.scope.isGenerator = false) (hk : fd.scope.kind = .function)
    (hnd : (ps ++ (frs ++ [])).Nodup := by decide) (hk1 : ps.all (fun x => names.lookup x == some .local) = true := by decide) (hk2 : frs.all (fun x => names.lookup x == some .free && !(x == ("__classdict__" : Str))) = true := by decide) (hk3 : names.all (fun x => x.2 != .cell) = true := by decide) :
    CloOk g f args H fd cl cavs ps [] := by
  subst hfr hsn
  refine ⟨hf, hcode, hclo, hgl, hbi, hC, hap, ?_, hnd, hl, fun x hx => ?_, fun x hx => ?_, fun x hx => ?_, hbind, hco, hgen, hk⟩
  · have := (List.nodup_append.mp hnd).2.1
    rwa [List.append_nil] at this
  · simpa using List.all_eq_true.mp hk1 x hx
  · simpa using List.all_eq_true.mp hk2 x hx
  · simpa using List.all_eq_true.mp hk3 x hx
section
variable {l : List (Option AV)} {H : Hp} {Q : AV → Stt → Prop} {QF : AF → Stt → Prop} {Wb : Pr AF} {We : Pr AV} {a : Addr} {xs : List AV}
theorem vq_forA {i : Nat} (h1 : H.rd a = some (.list xs)) (I : Nat → Stt → Prop) (h0 : ∀ H', H'.rd = H.rd → (∀ f, f ≠ a → H.own f → H'.own f) → I 0 ⟨l, H'⟩)
    (ht : ∀ j v σ', xs[j]? = some v → I j σ' → GenL (fun T => letK i v (thenK Wb T) σ') (turnF I QF j)) (he : ∀ σ', I xs.length σ' → QF .next σ') : listI (.ref a) (fun items => forK i Wb QF items) ⟨l, H⟩ :=
  ⟨_, h1, I, h0 _ rfl fun f n o => ⟨n, o⟩, fun j v σ' hv hI => (ht j v σ' hv hI).go, fun σ' hI => he σ' hI⟩
theorem vq_forEA {i j : Nat} (h1 : H.rd a = some (.list xs)) (I : Nat → Stt → Prop) (h0 : ∀ H', H'.rd = H.rd → (∀ f, f ≠ a → H.own f → H'.own f) → I 0 ⟨l, H'⟩)
    (ht : ∀ m v σ', xs[m]? = some v → I m σ' → GenL (fun T => letsK [i, j] [.int (m : Int), v] (thenK Wb T) σ') (turnF I QF m)) (he : ∀ σ', I xs.length σ' → QF .next σ') : enumI i j Wb [.ref a] QF ⟨l, H⟩ :=
  ⟨_, h1, I, h0 _ rfl fun f n o => ⟨n, o⟩, fun m v σ' hv hI => (ht m v σ' hv hI).go, fun σ' hI => he σ' hI⟩
theorem vq_compA {fi : List Nat} (h1 : H.rd a = some (.list xs)) (hl : xs.length ≤ 1000000) (loc : List (Option AV)) (hloc : fvals fi l = loc) (J : Nat → List AV → Hp → Prop) (h0 : ∀ H', H'.rd = H.rd → J 0 [] H')
    (ht : ∀ j v acc H', xs[j]? = some v → acc.length = j → J j acc H' → We (fun u σ₁ => σ₁.loc = some v :: loc ∧ J (j + 1) (acc ++ [u]) σ₁.H) ⟨some v :: loc, H'⟩)
    (he : ∀ acc H', acc.length = xs.length → J xs.length acc H' → newK (.list acc) Q ⟨l, H'⟩) : listI (.ref a) (fun items => compK We fi Q items) ⟨l, H⟩ := by
  subst hloc
  exact ⟨_, h1, hl, J, h0 _ rfl, fun j v acc H' hv hac hJ => ht j v acc H' hv hac hJ, fun acc H' hac hJ => he acc H' hac hJ⟩
end
noncomputable def tms (s : Str) (n : Nat) : Str := ⟨((List.replicate n s.cps.toList).flatten).toArray⟩
theorem tms_add (s : Str) (i j : Nat) : tms s i ++ tms s j = tms s (i + j) := by
  show (⟨(tms s i).cps ++ (tms s j).cps⟩ : Str) = _
  unfold tms
  congr 1
  rw [← List.replicate_append_replicate, List.flatten_append]
  simp
theorem tms_one (s : Str) : tms s 1 = s := by
  unfold tms; simp
theorem tms_zero (s : Str) : tms s 0 = Str.empty := rfl
theorem tms_len (s : Str) (i : Nat) : (tms s i).length = s.length * i := by
  show (((List.replicate i s.cps.toList).flatten).toArray).size = s.cps.size * i
  simp [List.length_flatten, Nat.mul_comm]
theorem foldl_repL (x : Array Nat) : ∀ (n : Nat) (acc : Array Nat), List.foldl (fun x1 x2 => x1 ++ x2) acc (List.replicate n x) = acc ++ ((List.replicate n x.toList).flatten).toArray
  | 0, acc => by simp
  | n + 1, acc => by
    rw [List.replicate_succ, List.foldl_cons, foldl_repL x n, List.replicate_succ]
    apply Array.ext'
    simp
theorem mul_tms (s : Str) (n : Nat) (hs : s.length ≠ 0) : Txt.mul s (n : Int) = tms s n := by
  unfold Txt.mul
  by_cases h0 : n = 0
  · subst h0; rfl
  · rw [if_neg (by omega)]
    split
    · rename_i h
      simp only [Bool.or_eq_true, beq_iff_eq] at h
      rcases h with h | h
      · have : n = 1 := by omega
        subst this; rw [tms_one]
      · exact absurd h hs
    · rw [Int.toNat_natCast]
      have := foldl_repL s.cps n #[]
      unfold tms
      congr 1
      simpa using this
theorem isTrue_Compare2 (l o1 o2 r1 r2 pos whole) (env : Env) : isTrue (.Compare l [o1, o2] [r1, r2] pos) env whole =
    (do let a ← eval l env; let b ← holding [a] (eval r1 env); standAt pos; let c ← holding [a, b] (compareOp o1 a b); release [a, b] [c]
        if ← holding [c, b] (truthy c) then (do let d ← holding [b] (markedBehindIn o2 r2 (eval r2 env)); standAt pos; let e ← operate [b, d] (compareOp o2 b d); holding [e] (truthy e)) else pure false) := rfl
theorem wpAny_isTrue_Compare2 {M : Model} {A : Around} {E : Value → Shared → Prop} {s : Shared} {env : Env} {l o1 o2 r1 r2 pos whole} {Q : Bool → Shared → Prop}
    (h : wpAny M A (eval l env) (fun a s₁ => wpAny M A (eval r1 env) (fun b s₂ => wpAny M A (compareOp o1 a b) (fun c s₃ => wpAny M A (truthy c) (fun t s₄ =>
      if t = true then wpAny M A (eval r2 env) (fun d s₅ => wpAny M A (compareOp o2 b d) (fun e s₆ => wpAny M A (truthy e) Q E s₆) E s₅) E s₄ else Q false s₄) E s₃) E s₂) E s₁) E s)
    (hm : behindInMarks o2 r2 = false := by with_unfolding_all rfl) : wpAny M A (isTrue (.Compare l [o1, o2] [r1, r2] pos) env whole) Q E s := fun Γ p hΓ => by
  simp only [isTrue_Compare2, markedBehindIn_of_false hm, Sem.wp_bind', Sem.wp_holding, Sem.wp_cmd_standAt, Sem.wp_release]
  refine Sem.wp_mono M Γ _ (fun a p₁ s₁ h₁ => Sem.wp_mono M Γ _ (fun b _ s₂ h₂ => Sem.wp_mono M Γ _ (fun c p₃ s₃ h₃ => Sem.wp_mono M Γ _ (fun t p₄ s₄ h₄ => ?_) (fun _ _ _ h' => h') _ _ (h₃ Γ p₃ hΓ))
    (fun _ _ _ h' => h') _ _ (h₂ Γ _ hΓ)) (fun _ _ _ h' => h') _ _ (h₁ Γ p₁ hΓ)) (fun _ _ _ h' => h') _ _ (h Γ p hΓ)
  cases t with
  | false => simpa using h₄
  | true =>
    simp only [if_true, Sem.wp_bind', Sem.wp_holding, Sem.wp_cmd_standAt, Sem.wp_operate] at h₄ ⊢
    exact Sem.wp_mono M Γ _ (fun d p₅ s₅ h₅ => Sem.wp_mono M Γ _ (fun e p₆ s₆ h₆ => h₆ Γ p₆ hΓ) (fun _ _ _ h' => h') _ _ (h₅ Γ _ hΓ)) (fun _ _ _ h' => h') _ _ (h₄ Γ p₄ hΓ)
theorem trc_cmp2 {F : Fm} {l r1 r2 : Expr} {o1 o2 : CmpOp} {p : Pos} {Wl W1 W2 : Pr AV} (hl : TrE F l Wl) (h1 : TrE F r1 W1) (h2 : TrE F r2 W2) (hm : behindInMarks o2 r2 = false := by with_unfolding_all rfl) :
    TrC F (.Compare l [o1, o2] [r1, r2] p) (bnd Wl fun a => bnd W1 fun b Q => cmpC o1 a b fun c σ => iteK c (W2 (fun d => cmpC o2 b d Q) σ) (Q false σ)) :=
  fun ok σ s Q hg hW => wpAny_isTrue_Compare2 (hl.use ok hg hW fun v s₁ a σ₁ r₁ h₁ g₁ st₁ => h1.use ok g₁ h₁ fun u s₂ b σ₂ r₂ h₂ g₂ st₂ => cmpC_ok ok g₂ r₁ r₂ h₂ fun c hc => wpAny_truthy_bool (by
    have st₁₂ := st₁.trans st₂
    cases c with
    | false => simpa [iteK] using Pst.of rfl (show Q false σ₂ by simpa [iteK] using hc) g₂ st₁₂
    | true =>
      simp only [iteK, if_true] at hc ⊢
      exact h2.use ok g₂ hc fun x s₃ d σ₃ r₃ h₃ g₃ st₃ => cmpC_ok ok g₃ r₂ r₃ h₃ fun c' hc' => wpAny_truthy_bool (Pst.of rfl hc' g₃ (st₁₂.trans st₃)))) hm
noncomputable def lawOf (p : Program) : Option (List Stmt × Scope) := match p.main.body.getLast? with
  | some (.FunctionDef _ _ b _ _ _ s _ _ _) => some (b, s)
  | _ => none
noncomputable def lamOf (p : Program) : Option (Arguments × Expr × Scope) := match ((lawOf p).bind (fun u => u.1[15]?) : Option Stmt) with
  | some (Stmt.If (Expr.UnaryOp _ (Expr.Call _ [Expr.Lambda a b s _] _ _) _) _ _ _) => some (a, b, s)
  | _ => none
theorem by_lit {α : Type} {x : Option α} {P : α → Prop} {v : α} (h : x = some v) (k : P v) : ∀ u, x = some u → P u := by
  intro u hu
  cases h.symm.trans hu; exact k
inductive Spl {α : Type} : Nat → List α → List α → List α → Prop
  | z {xs} : Spl 0 xs [] xs
  | s {n x xs p q} : Spl n xs p q → Spl (n + 1) (x :: xs) (x :: p) q
theorem Spl.eq {α : Type} {n : Nat} {xs p q : List α} (h : Spl n xs p q) : xs = p ++ q := by
  induction h with
  | z => rfl
  | s _ ih => rw [ih]; rfl
theorem Spl.one {α : Type} {n : Nat} {xs p q p' q' : List α} (h : Spl n xs p q) (h' : Spl n xs p' q') : p = p' ∧ q = q' := by
  induction h generalizing p' q' with
  | z => cases h'; exact ⟨rfl, rfl⟩
  | s _ ih => cases h' with
    | s h'' => obtain ⟨rfl, rfl⟩ := ih h''; exact ⟨rfl, rfl⟩
theorem spl_lit {α : Type} {n : Nat} {xs p q : List α} {P : List α → List α → Prop} (h : Spl n xs p q) (k : P p q) : ∀ p' q', Spl n xs p' q' → P p' q' := fun p' q' h' => by
  obtain ⟨rfl, rfl⟩ := h.one h'; exact k
theorem execs_appS {M : Model} {Γ : PySem.Ctx} {env : Env} {E' : Value → Pos → Shared → Prop} {Q' : Flow → Pos → Shared → Prop} {q : List Stmt} : ∀ {pr : List Stmt} {p : Pos} {s : Shared},
    Sem.wp M Γ (execs pr env) (fun f pos s' => match f with | .next => Sem.wp M Γ (execs q env) Q' E' pos s' | f => Q' f pos s') E' p s → Sem.wp M Γ (execs (pr ++ q) env) Q' E' p s := by
  intro pr
  induction pr with
  | nil => intro p s h; exact h
  | cons a r ih =>
    intro p s h
    rw [execs_cons, Sem.wp_bind'] at h
    rw [List.cons_append, execs_cons, Sem.wp_bind']
    refine Sem.wp_mono M Γ _ (fun f p' s' h' => ?_) (fun _ _ _ h' => h') _ _ h
    cases f <;> first | exact ih h' | exact h'
theorem execs_app {M : Model} {A : Around} {E : Value → Shared → Prop} {env : Env} {Q : Flow → Shared → Prop} {pr q : List Stmt} {s : Shared}
    (h : wpAny M A (execs pr env) (fun f s' => match f with | .next => wpAny M A (execs q env) Q E s' | f => Q f s') E s) : wpAny M A (execs (pr ++ q) env) Q E s := fun Γ p hΓ => by
  refine execs_appS (Sem.wp_mono M Γ _ (fun f p' s' h' => ?_) (fun _ _ _ h' => h') _ _ (h Γ p hΓ))
  cases f <;> first | exact h' Γ p' hΓ | exact h'
theorem no_self {g h : Heap} {L : Addr} {m : Str → Option Value} (F : Fr g L h m) : g.get? L = none := none_of fun o e => absurd (Nat.lt_of_lt_of_le (Heap.lt_size e) F.above) (Nat.lt_irrefl _)
theorem clo_leaves {M : Model} {A : Around} {E : Value → Shared → Prop} {s' : Shared} {base g g₂ : Heap} {outer : List Env} {L a e t : Addr} {m : Str → Option Value} {name : Str} {scope : Scope} {cd : Value} {cells : List (Str × Addr)} {Q : Unit → Shared → Prop} {news : List (Addr × Obj)}
    {cls : Value} {vs : List Value} (K : Below A base outer g) (F : Fr g L g₂ m) (R : RaisedS base g₂ (envX name scope L a cd cells :: outer) e cls t vs news s'.heap) (hsm : g₂.UpToSlots s'.heap)
    (hQ : ∀ h', RaisedS base g outer e cls t vs news h' → RaisedK base outer e cls t vs news h' → g.UpToSlots h' → Q () { s' with heap := h' }) :
    wpAny M (A.deeper (envX name scope L a cd cells)) (leaving (envX name scope L a cd cells) (.ref e)) Q E s' := by
  rcases R with ⟨⟨B, r1, r2, r3, r4, r5⟩, r6⟩
  have fs : ∀ b, b ∈ (envX name scope L a cd cells :: outer).filterMap (·.frame) → b = L ∨ b ∈ outer.filterMap (·.frame) := fun b hb => List.mem_cons.mp (show b ∈ L :: outer.filterMap (·.frame) from hb)
  refine wpAny_leaves_onW (Around.frames_deeper K.stack) rfl r4 fun h' fly up => ?_
  have S : RaisedS base g outer e cls t vs news h' := by
    refine ⟨⟨B, r1, fun b o eb nb => r2 b o (F.keep b o eb) fun hb => ?_, fun q hq => ?_, fly, r5⟩, r6.of_slots up⟩
    · rcases fs b hb with rfl | hb
      · have := no_self F; rw [eb] at this; cases this
      · exact nb hb
    · obtain ⟨z1, z2, z3⟩ := r3 q hq
      exact ⟨z1, none_of (fun o eo => by have := F.keep _ _ eo; rw [z2] at this; cases this), z3⟩
  exact hQ h' S S.toK ((Heap.UpToSlots.of_keeps F.keep).trans (hsm.trans up))
section
variable {prog : Program} {w : World} {A₀ A : Around} {s : Shared} {base h₀ : Heap} {env : Env} {L : Addr} {m : Str → Option Value} {news : List (Addr × Obj)} {K : Frag} {p : Program} {loose : List Str} {mean : ExcName → Option Value} {mg mb : Str → Option Value}
    {R : Result → Shared → Prop} {name qual : Str} {params : Arguments} {body : List Stmt} {scope : Scope} {dV kV doc pm cdv ct oc : Value} {an od : Option Addr} {osl : Array (Option Value)} {f : Addr} {args : Args} {binds : List (Str × Value)}
theorem ref_enter (B : Below A₀ base [] h₀) (F : Fr h₀ L s.heap m) (X₀ : K.In h₀) (N : News h₀ L s.heap news) (T : Top p loose mean mg mb h₀) (hA : A.frames = some [env]) (hf : env.frame = some L) (hke : env.scope.kind = .function)
    (ho : K.lookup f = some ⟨oc, od, .func (fnOf name qual params body scope dV kV doc pm an cdv ct), osl⟩) (hcd : codeIn K cdv qual = true) (hroom : A.depth < recursionLimit)
    (hbind : BindsTo s (fnOf name qual params body scope dV kV doc pm an cdv ct) args binds) (hloc : ∀ y ∈ binds, scope.names.lookup y.1 = some .local)
    (h : ∀ g L' h₁, Fr h₀ L g m → Fr g L' h₁ (fun y => binds.reverse.lookup y) → News g L' h₁ news → Below A base [env] g → K.In g → Top p loose mean mg mb g → KtsDicts ([env].filterMap (·.frame)) g →
      wpAny (model prog w) (A.deeper (envOf qual scope L' f cdv)) (execs body (envOf qual scope L' f cdv))
        (fun fl s' => LeaveS0 ([env].filterMap (·.frame)) h₀ L m g R (match fl with | .ret v => v | _ => .none) s')
        (fun e s' => wpAny (model prog w) (A.deeper (envOf qual scope L' f cdv)) (leaving (envOf qual scope L' f cdv) e) (fun _ s'' => R (.error e) s'') (fun e' s'' => R (.error e') s'') s')
        { s with heap := h₁, toks := s.toks + binds.length })
    (hco : scope.isCoroutine = false) (hgen : scope.isGenerator = false) (hk : scope.kind = .function) (hcell : ∀ x ∈ scope.names, x.2 ≠ .cell) : codeAny (model prog w) A (.call (.ref f) args) R s := by
  obtain ⟨FG, BG, st, -⟩ := groundX (R := R) B F N hA hf hke
  have hfs : [env].filterMap (·.frame) = [L] := by simp [hf]
  have nL := no_self F
  obtain ⟨oL, es, ep, q1, q2, q3, q4⟩ := FG.ns
  have XH := X₀.keeps F.keep
  refine codeAny_call_def (fd := fnOf name qual params body scope dV kV doc pm an cdv ct) (body := body) (binds := binds) hroom (XH _ _ ho) rfl (T.nolimit.keeps F.keep) (codeRec_of XH hcd) rfl hbind hcell hloc (fun h₁ n1 n2 => ?_) hco hgen hk
  have FI : Fr (hideAll s.heap (news.map (·.1))) s.heap.objs.size h₁ (fun y => binds.reverse.lookup y) := ⟨n1, fun b o e => n2 b o (of_hideAll _ e), Nat.le_of_eq (hideAll_size _ _)⟩
  have NI : News (hideAll s.heap (news.map (·.1))) s.heap.objs.size h₁ news := fun q hq => ⟨n2 _ _ (N q hq).1, Nat.ne_of_lt (Heap.lt_size (N q hq).1), hideAll_none _ (List.mem_map_of_mem hq)⟩
  refine wpAny_mono (h _ _ h₁ FG FI NI BG (X₀.keeps st) (T.keeps st) (fun b hb => ?_)) (fun fl s' hl => ?_) fun _ _ x => x
  · rw [hfs] at hb
    cases List.mem_singleton.mp hb
    exact ⟨oL, es, ep, q1, q2⟩
  · rcases hl with ⟨g', L', m', news', tu, F', N', k⟩
    obtain ⟨sl, u⟩ := tu.up q1
    refine k ⟨⟨_, es, ep, F'.keep _ _ u, q2, q3, q4⟩, fun b o e => ?_, F.above⟩ fun q hq => ?_
    · refine F'.keep b o (tu.other b o (st b o e) fun hb => ?_)
      rw [hfs] at hb
      cases List.mem_singleton.mp hb
      rw [nL] at e; cases e
    · obtain ⟨z1, -, z3⟩ := N' q hq
      refine ⟨z1, fun e => ?_, none_of fun o e => ?_⟩
      · rw [e, u] at z3; cases z3
      · obtain ⟨sl', u'⟩ := tu.up (st _ _ e)
        rw [z3] at u'; cases u'
end
theorem wp_call1 {F : Fm} (ok : F.Ok) {fe e : Expr} {es : List Expr} {p : Pos} {Wf : Pr AV} {Wa : Pr (List AV)} (hf : TrE F fe Wf) (ha : TrL F (e :: es) p Wa) {σ : Stt} {s : Shared} (hg : Gd F σ s) {Q : Value → Shared → Prop}
    (hW : Wf (fun f σ₁ => fnK F.g f σ₁ (Wa (fun as σ₂ => ∀ s₂ fv vals, Gd F σ₂ s₂ → Sp F σ s σ₂ s₂ → VR fv f → VRs vals as → wpAny F.M F.A (call fv vals) Q (fun _ _ => False) s₂) σ₁)) σ)
    (hn : starEach (e :: es) F.env = (false, eval e F.env) :: starEach es F.env := by with_unfolding_all rfl)
    (hc : eval (.Call fe (e :: es) [] p) F.env = (do callWith p (← eval fe F.env) [] (backTo p (starEach (e :: es) F.env)) (backToKw p (keywordEach [] F.env))) := by with_unfolding_all rfl) :
    wpAny F.M F.A (eval (.Call fe (e :: es) [] p) F.env) Q (fun _ _ => False) s := by
  refine Call_ (hf.use ok hg hW fun v s₁ a σ₁ r₁ h₁ g₁ st₁ => ?_) hc
  obtain ⟨⟨f, rfl, hfn⟩, h₁⟩ := h₁
  cases r₁
  obtain ⟨o, fd, e1, e2, e3⟩ := hfn _ _ g₁.hg ok.g
  have hx : ¬ F.exm f := by
    rintro (z | ⟨y, hy⟩)
    · obtain ⟨m, ⟨o', _, _, e', d, _⟩, _⟩ := g₁.ns
      rw [← z, e1] at e'; cases e'; rw [e2] at d; cases d
    · obtain ⟨v, o', e', d⟩ := g₁.cells _ hy
      rw [show s₁.heap.get? f = _ from e1] at e'; cases e'; rw [e2] at d; cases d
  refine callWith_function (o := o) (fd := fd) ?_
  rw [hn]
  refine evalArgs_plain ?_
  have := ha.use ok g₁ h₁ (Q' := fun vs s₂ => (s₂.heap.get? f = some o ∧ o.data = .func fd) ∧ wpAny F.M F.A (call (.ref f) ([] ++ vs)) Q (fun _ _ => False) s₂) fun vs s₂ as σ₂ r₂ h₂ g₂ st₂ => ?_
  · rw [hn] at this; exact this
  · exact ⟨⟨st₂.hs.keep f o e1 hx e3, e2⟩, h₂ s₂ (.ref f) vs g₂ (st₁.trans st₂) VR.r r₂⟩
theorem gd_again {F : Fm} (ok : F.Ok) {σ : Stt} {s : Shared} (hg : Gd F σ s) {m : Str → Option Value} (hm : s.heap.Ns F.env.locals m) {h' : Heap} {tk : Nat} (Fr' : Fr F.g.B F.env.locals h' m) (hc : ∀ c ∈ F.env.cells, ∀ o, s.heap.get? c.2 = some o → h'.get? c.2 = some o)
    {H' : Hp} (hr : ∀ a ao, H'.rd a = some ao → HObj h' a ao ∧ ¬ F.exm a) (ho : ∀ a, ¬ H'.own a) : Gd F ⟨σ.loc, H'⟩ { s with heap := h', toks := tk } := by
  obtain ⟨-, ⟨m₀, hm₀, hl⟩, cl⟩ := hg
  have em : m₀ = m := by
    obtain ⟨o, es, ep, q1, q2, _, q4⟩ := hm₀
    obtain ⟨o', es', ep', p1, p2, _, p4⟩ := hm
    rw [q1] at p1; cases p1
    rw [q2] at p2; cases p2
    funext x
    rw [← q4 x, p4 x]
  subst em
  refine ⟨⟨hr, fun a e => absurd e (ho a), Fr'.keep, fun a e => absurd e (ho a)⟩, ⟨m₀, Fr'.ns, fun i y av h1 h2 => ?_⟩, fun c h => ?_⟩
  · obtain ⟨v, q1, q2⟩ := hl i y av h1 h2
    refine ⟨v, q1, ?_⟩
    rcases q2 with q2 | ⟨b1, c, b2, o, b3, b4⟩
    · exact .inl q2
    · exact .inr ⟨b1, c, b2, o, hc _ (mem_of_lookup b2) o b3, b4⟩
  · obtain ⟨v, o, q1, q2⟩ := cl c h
    exact ⟨v, o, hc c h o q1, q2⟩
noncomputable def RefCall (w : World) (Bh : Heap) : Prop := ∀ (L lf fa c' : Addr) (m : Str → Option Value) (hp : Heap) (gg : Array GenState) (dd : Drawn) (tt : Nat) (os : OsState) (pm ctv : Value) (oa ob ow oc : Obj) (ra rb : Addr) (wv : Int) (tkw : Tok) (vs p1 p2 p3 : Array Value) (tq : Tok)
   (Q : Value → Shared → Prop) (E : Value → Shared → Prop), Fr Bh L hp m → ow.data = .cell (some (.int wv tkw)) → ob.data = .cell (some (.ref rb)) → oa.data = .cell (some (.ref ra)) → oc.data = .fields vs → vs[1]? = some (.str (Str.ofString "law.<locals>.<lambda>") tq) →
   ∀ u, lamOf PySem.Challenge.rw_nn0037_01.row.prog = some u → ∀ v, lawOf PySem.Challenge.rw_nn0037_01.row.prog = some v →
   News Bh L hp [(fa, kla_obj "<lambda>" "law.<locals>.<lambda>" u.1 u.2.1 u.2.2 [(Str.ofString "w", L+1+1+1), (Str.ofString "b", L+1+1), (Str.ofString "a", L+1)] pm c' ctv), (c', oc), (L+1+1+1, ow), (L+1+1, ob), (L+1, oa), (428, tabObj p1), (294, tabObj p2), (287, tabObj p3)] →
   (∀ h' tk', Fr Bh L h' m → News Bh L h' [(L+1+1+1, ow), (L+1+1, ob), (L+1, oa), (428, tabObj p1), (294, tabObj p2), (287, tabObj p3)] → Q (.bool true) ⟨h', gg, dd, tk', os⟩) →
   wpAny (model PySem.Challenge.rw_nn0037_01.row.prog w) (callerA.deeper (envOfC (Str.ofString "law") v.2 L lf (.ref 432))) (call (.ref 414) [.ref fa]) Q E ⟨hp, gg, dd, tt, os⟩
end Mine
end
section
open PySem PySem.W PyProof.Rows
namespace Mine
local macro_rules | `(tactic| walk_at "leaving ref") => `(tactic| (k_here; (with_reducible rename KtsDicts _ _ => kdX); (refine' clo_leaves ?k1 ?k2 ?k3 ?k4 ?_; (case k3 => assumption); (case k2 => assumption); (case k1 => assumption); (case k4 => assumption); k_whole; intro h' S' R' U'; (try dsimp only at S' R' U' ⊢))))
theorem ref_call {w : World} {mg mb : Str → Option Value} {mean : ExcName → Option Value} {loose : List Str} {Bh : Heap} (hX : (KF w.params).In Bh) (T : Top topProg loose mean mg mb Bh) (K : Below callerA Bh [] Bh) (hcode : CodeHd Bh 432 428) : RefCall w Bh := by
  intro L lf fa c' m hp gg dd tt os pm ctv oa ob ow oc ra rb wv tkw vs p1 p2 p3 tq Q E F d1 d2 d3 d4 d5
  revert hX
  k_fill
  intro hX
  refine' by_lit (h := rfl) ?_
  dsimp only
  refine' by_lit (h := rfl) ?_
  dsimp only
  intro N kk
  refine wpAny_call ?_
  k_dflt (refine' ref_enter ?k1 ?k2 ?k3 ?k4 ?k5 ?kA ?kF ?kK ?k6 ?k7 ?k8 ?k9 ?kB ?_ ?c2 ?c3 ?c4 ?c5; (case kA => exact rfl); (case kF => exact rfl); (case kK => exact rfl); (case k1 => k_asm); (case k2 => k_asm); (case k3 => k_asm); (case k4 => k_asm); (case k5 => k_asm); (case k6 => k_is); (case k7 => k_is); (case k8 => k_room); (case k9 => first | exact BindsTo.of_eq rfl | exact binds_K (by k_in) rfl (by k_is) rfl rfl rfl); (case kB => exact locs rfl); (case c2 => exact rfl); (case c3 => exact rfl); (case c4 => exact rfl); (case c5 => decide); k_whole; intro g' L' h' FG' F' N' B' X' T' D'; (try dsimp only); (try k_lift B'); (try k_fold))
  k_steps
  rename_i kF kN Tc kX
  exact kk _ _ kF fun q hq => kN q (.tail _ (.tail _ (.tail _ (.tail _ hq))))
end Mine
end
section
open PySem PySem.W PyProof.Rows PySem.Spec PySem.Calls
namespace Mine
noncomputable def gs (w : World) (B : Heap) : Gs := ⟨PySem.Challenge.rw_nn0037_01.prog, w, KF w.params, B⟩
noncomputable def NF (w : World) (B : Heap) (x : Str) (a : Addr) : Prop := nsIn (gs w B).K mainGlobals x = some (some (.ref a)) ∧ ∀ (σ : Stt) (P : Prop), P → fnK (gs w B) (.ref a) σ P
noncomputable def callN (g : Gs) (D : Nat) (a : Addr) (as : List AV) (Q : AV → Stt → Prop) (σ : Stt) : Prop := callP g D a as σ.H fun v H' => Q v ⟨σ.loc, H'⟩
theorem vc_callN {g : Gs} {D : Nat} {a : Addr} {as : List AV} {Q : AV → Stt → Prop} {l : List (Option AV)} {H : Hp} (k : callP g D a as H fun v H' => Q v ⟨l, H'⟩) : callN g D a as Q ⟨l, H⟩ := k
inductive NFi : Str → Addr → Prop
  | normal : NFi (Str.ofString "normal") 70
  | is_even : NFi (Str.ofString "is_even") 77
  | compare : NFi (Str.ofString "compare") 84
  | add : NFi (Str.ofString "add") 91
  | sub : NFi (Str.ofString "sub") 98
  | lifted : NFi (Str.ofString "lifted") 105
  | shift_left : NFi (Str.ofString "shift_left") 112
  | shift_right : NFi (Str.ofString "shift_right") 119
  | bits : NFi (Str.ofString "bits") 126
  | bit : NFi (Str.ofString "bit") 133
  | low : NFi (Str.ofString "low") 140
  | trailing : NFi (Str.ofString "trailing") 147
  | inverse_limb : NFi (Str.ofString "inverse_limb") 154
  | low_limbs : NFi (Str.ofString "low_limbs") 161
  | complement : NFi (Str.ofString "complement") 166
  | inverse_low : NFi (Str.ofString "inverse_low") 173
  | doubled_rest : NFi (Str.ofString "doubled_rest") 201
  | mont_make : NFi (Str.ofString "mont_make") 208
  | add_row : NFi (Str.ofString "add_row") 215
  | taken_once : NFi (Str.ofString "taken_once") 222
  | redc : NFi (Str.ofString "redc") 229
  | to_mont : NFi (Str.ofString "to_mont") 236
  | from_mont : NFi (Str.ofString "from_mont") 243
  | mont_mul : NFi (Str.ofString "mont_mul") 250
  | odd_powers : NFi (Str.ofString "odd_powers") 257
  | window_at : NFi (Str.ofString "window_at") 264
  | by_windows : NFi (Str.ofString "by_windows") 271
  | check_modulus : NFi (Str.ofString "check_modulus") 278
  | unit_rest : NFi (Str.ofString "unit_rest") 285
  | mont_times : NFi (Str.ofString "mont_times") 292
  | low_times : NFi (Str.ofString "low_times") 299
  | power_mont : NFi (Str.ofString "power_mont") 306
  | power_low : NFi (Str.ofString "power_low") 313
  | power_any : NFi (Str.ofString "power_any") 320
  | ladder : NFi (Str.ofString "ladder") 327
  | two_powers : NFi (Str.ofString "two_powers") 334
  | window_size : NFi (Str.ofString "window_size") 341
  | power_best : NFi (Str.ofString "power_best") 348
  | many_products : NFi (Str.ofString "many_products") 353
  | law_row : NFi (Str.ofString "_law_row") 360
  | law_number : NFi (Str.ofString "_law_number") 367
  | law_mul : NFi (Str.ofString "_law_mul") 374
  | law_divrem : NFi (Str.ofString "_law_divrem") 381
  | law_draw : NFi (Str.ofString "_law_draw") 388
  | law_size : NFi (Str.ofString "_law_size") 395
  | law_box : NFi (Str.ofString "_law_box") 400
  | law_power : NFi (Str.ofString "_law_power") 407
  | law_refused : NFi (Str.ofString "_law_refused") 414
  | law_together : NFi (Str.ofString "_law_together") 421
  | law_windows_right : NFi (Str.ofString "_law_windows_right") 426
theorem nf_all {w : World} {B : Heap} {x : Str} {a : Addr} (h : NFi x a) : NF w B x a :=
  @NFi.rec (fun x a _ => NF w B x a) ⟨by rfl, fun σ P h => fnK_def rfl h⟩ ⟨by rfl, fun σ P h => fnK_def rfl h⟩ ⟨by rfl, fun σ P h => fnK_def rfl h⟩ ⟨by rfl, fun σ P h => fnK_def rfl h⟩ ⟨by rfl, fun σ P h => fnK_def rfl h⟩ ⟨by rfl, fun σ P h => fnK_def rfl h⟩ ⟨by rfl, fun σ P h => fnK_def rfl h⟩ ⟨by rfl, fun σ P h => fnK_def rfl h⟩ ⟨by rfl, fun σ P h => fnK_def rfl h⟩ ⟨by rfl, fun σ P h => fnK_def rfl h⟩ ⟨by rfl, fun σ P h => fnK_def rfl h⟩ ⟨by rfl, fun σ P h => fnK_def rfl h⟩ ⟨by rfl, fun σ P h => fnK_def rfl h⟩ ⟨by rfl, fun σ P h => fnK_def rfl h⟩ ⟨by rfl, fun σ P h => fnK_def rfl h⟩ ⟨by rfl, fun σ P h => fnK_def rfl h⟩ ⟨by rfl, fun σ P h => fnK_def rfl h⟩ ⟨by rfl, fun σ P h => fnK_def rfl h⟩ ⟨by rfl, fun σ P h => fnK_def rfl h⟩ ⟨by rfl, fun σ P h => fnK_def rfl h⟩ ⟨by rfl, fun σ P h => fnK_def rfl h⟩ ⟨by rfl, fun σ P h => fnK_def rfl h⟩ ⟨by rfl, fun σ P h => fnK_def rfl h⟩ ⟨by rfl, fun σ P h => fnK_def rfl h⟩ ⟨by rfl, fun σ P h => fnK_def rfl h⟩ ⟨by rfl, fun σ P h => fnK_def rfl h⟩ ⟨by rfl, fun σ P h => fnK_def rfl h⟩ ⟨by rfl, fun σ P h => fnK_def rfl h⟩ ⟨by rfl, fun σ P h => fnK_def rfl h⟩ ⟨by rfl, fun σ P h => fnK_def rfl h⟩ ⟨by rfl, fun σ P h => fnK_def rfl h⟩ ⟨by rfl, fun σ P h => fnK_def rfl h⟩ ⟨by rfl, fun σ P h => fnK_def rfl h⟩ ⟨by rfl, fun σ P h => fnK_def rfl h⟩ ⟨by rfl, fun σ P h => fnK_def rfl h⟩ ⟨by rfl, fun σ P h => fnK_def rfl h⟩ ⟨by rfl, fun σ P h => fnK_def rfl h⟩ ⟨by rfl, fun σ P h => fnK_def rfl h⟩ ⟨by rfl, fun σ P h => fnK_def rfl h⟩ ⟨by rfl, fun σ P h => fnK_def rfl h⟩ ⟨by rfl, fun σ P h => fnK_def rfl h⟩ ⟨by rfl, fun σ P h => fnK_def rfl h⟩ ⟨by rfl, fun σ P h => fnK_def rfl h⟩ ⟨by rfl, fun σ P h => fnK_def rfl h⟩ ⟨by rfl, fun σ P h => fnK_def rfl h⟩ ⟨by rfl, fun σ P h => fnK_def rfl h⟩ ⟨by rfl, fun σ P h => fnK_def rfl h⟩ ⟨by rfl, fun σ P h => fnK_def rfl h⟩ ⟨by rfl, fun σ P h => fnK_def rfl h⟩ ⟨by rfl, fun σ P h => fnK_def rfl h⟩ x a h
theorem tr_globN {w : World} {B : Heap} {D : Nat} {A : Around} {env : Env} {nm : List Str} {x : Str} {p : Pos} {a : Addr} (hx : env.kindOf x = some .globalImplicit) (e : NFi x a) (hd : (x == ("__debug__" : Str)) = false := by with_unfolding_all decide) :
    TrE ⟨gs w B, D, A, env, nm⟩ (.Name x p) (fun Q σ => Q (.ref a) σ) := tr_glob hx (nf_all e).1 hd
theorem tr_callN {w : World} {B : Heap} {D : Nat} {A : Around} {env : Env} {nm : List Str} {x : Str} {q p : Pos} {a : Addr} {e : PySem.Expr} {es : List PySem.Expr} {Wa : Pr (List AV)} (hx : env.kindOf x = some .globalImplicit) (hn : NFi x a) (ha : TrL ⟨gs w B, D, A, env, nm⟩ (e :: es) p Wa)
    (hs : starEach (e :: es) env = (false, eval e env) :: starEach es env := by with_unfolding_all rfl) (hp : (backTo p (starEach es env)).any (·.1) = false := by with_unfolding_all rfl)
    (hc : eval (.Call (.Name x q) (e :: es) [] p) env = (do callWith p (← eval (.Name x q) env) [] (backTo p (starEach (e :: es) env)) (backToKw p (keywordEach [] env))) := by with_unfolding_all rfl)
    (hd : (x == ("__debug__" : Str)) = false := by with_unfolding_all decide) :
    TrE ⟨gs w B, D, A, env, nm⟩ (.Call (.Name x q) (e :: es) [] p) (bnd Wa fun as => callN (gs w B) D a as) :=
  fun ok σ s Q hg hW => tr_call (tr_globN hx hn hd) ha hs hp hc ok σ s Q hg ((nf_all hn).2 σ _ (by rw [show (fun as => callK (gs w B) D (.ref a) as Q) = fun as => callN (gs w B) D a as Q from funext fun as => funext fun σ => propext ⟨fun ⟨_, e, h⟩ => by cases e; exact h, fun h => ⟨_, rfl, h⟩⟩]; exact hW))
theorem callP_def0 {g : Gs} {D : Nat} {f : Addr} {args : List AV} {H : Hp} {Q : AV → Hp → Prop} {fd : FuncData} {oc : Value} {od : Option Addr} {osl : Array (Option Value)} {body : List Stmt} (hK : g.K.lookup f = some ⟨oc, od, .func fd, osl⟩) (hcd : codeIn g.K fd.code fd.qualname = true)
    (hbody : fd.body = .stmts body) (hclo : fd.closure = []) (hgl : fd.globals = mainGlobals) (hbi : fd.builtins = builtinsNs) (ps : List Str) (more : List Str) (hnd : (ps ++ more).Nodup) (hl : ps.length = args.length)
    (hkind : ps.all (fun x => fd.scope.names.lookup x == some .local) = true)
    (hcn : fd.scope.names.all (fun x => x.2 != .cell) = true)
    (hbind : ∀ vs, VRs vs args → bindArgs fd ⟨vs, []⟩ = pure (ps.zip vs)) {Wb : Pr AF}
    (hW : ∀ A L, TrB ⟨g, D, A, callEnvC fd L f, ps ++ more⟩ body Wb)
    (l₀ : List (Option AV)) (hl₀ : args.map some ++ List.replicate more.length none = l₀)
    (hVC : Wb (retK H Q) ⟨l₀, H⟩)
    (hco : fd.scope.isCoroutine = false := by rfl) (hgen : fd.scope.isGenerator = false := by rfl) (hk : fd.scope.kind = .function := by rfl) : callP g (D + 1) f args H Q := by
  subst hl₀
  refine callP_def hK hcd hbody hclo hgl hbi ps more hnd hl (fun n x hx => .inl ?_) ?_ hbind hW hVC hco hgen hk
  · simpa using List.all_eq_true.mp hkind x hx
  · have : ∀ (names : List (Str × NameKind)) (n : Nat) acc, names.all (fun x => x.2 != .cell) = true → cellsFrom n names acc = acc := by
      intro names
      induction names with
      | nil => intro n acc _; rfl
      | cons p r ih =>
        intro n acc h
        obtain ⟨x, k⟩ := p
        simp only [List.all_cons, Bool.and_eq_true] at h
        unfold cellsFrom
        rw [if_neg (by simpa using h.1)]
        exact ih n acc h.2
    rw [this _ 0 [] hcn]
    exact .nil
theorem ns_len {w : World} {B : Heap} : nsIn (gs w B).K mainGlobals (Str.ofString "len") = some none := by rfl
theorem ns_abs {w : World} {B : Heap} : nsIn (gs w B).K mainGlobals (Str.ofString "abs") = some none := by rfl
theorem ns_max {w : World} {B : Heap} : nsIn (gs w B).K mainGlobals (Str.ofString "max") = some none := by rfl
theorem ns_min {w : World} {B : Heap} : nsIn (gs w B).K mainGlobals (Str.ofString "min") = some none := by rfl
theorem ns_int {w : World} {B : Heap} : nsIn (gs w B).K mainGlobals (Str.ofString "int") = some none := by rfl
theorem ns_range {w : World} {B : Heap} : nsIn (gs w B).K mainGlobals (Str.ofString "range") = some none := by rfl
theorem ns_reversed {w : World} {B : Heap} : nsIn (gs w B).K mainGlobals (Str.ofString "reversed") = some none := by rfl
theorem ns_enumerate {w : World} {B : Heap} : nsIn (gs w B).K mainGlobals (Str.ofString "enumerate") = some none := by rfl
theorem ns_Montgomery {w : World} {B : Heap} : nsIn (gs w B).K mainGlobals (Str.ofString "Montgomery") = some (some (.ref 190)) := by rfl
theorem fn_law_mul {w : World} {B : Heap} {σ : Stt} {P : Prop} (h : P) : fnK (gs w B) (.ref 374) σ P := (nf_all .law_mul).2 σ P h
theorem fn_law_divrem {w : World} {B : Heap} {σ : Stt} {P : Prop} (h : P) : fnK (gs w B) (.ref 381) σ P := (nf_all .law_divrem).2 σ P h
theorem fn_law_refused {w : World} {B : Heap} {σ : Stt} {P : Prop} (h : P) : fnK (gs w B) (.ref 414) σ P := (nf_all .law_refused).2 σ P h
theorem ns_law_refused {w : World} {B : Heap} : nsIn (gs w B).K mainGlobals (Str.ofString "_law_refused") = some (some (.ref 414)) := (nf_all .law_refused).1
theorem fn_law_together {w : World} {B : Heap} {σ : Stt} {P : Prop} (h : P) : fnK (gs w B) (.ref 421) σ P := (nf_all .law_together).2 σ P h
set_option hygiene false
local macro_rules | `(tactic| walk_at "lk") => `(tactic| with_reducible (first | exact lk0 | exact lk1 | exact lk2 | exact lk3 | exact lk4 | exact lk5 | exact lk6 | exact lk7 | exact lk8 | exact lk9 | exact lk10 | exact lk11 | exact lk12 | exact lk13 | exact lk14 | exact lk15 | exact lk16 | exact lk17 | exact lk18 | exact lk19))
local macro_rules | `(tactic| walk_at "sto") => `(tactic| first | exact Or.inl rfl | exact Or.inr ⟨rfl, rfl⟩)
local macro_rules | `(tactic| walk_at "tg") => `(tactic| with_reducible (first | exact Tgts.nil | refine' Tgts.cons (by walk_at "lk") (by with_unfolding_all walk_at "sto") (by walk_at "tg")))
local macro_rules | `(tactic| walk_at "nms") => `(tactic| with_reducible (first | exact TN.nil | refine' TN.cons (by walk_at "lk") (by with_unfolding_all walk_at "sto") (by walk_at "nms")))
local macro_rules | `(tactic| walk_at "nf") => `(tactic| with_reducible constructor)
local macro_rules | `(tactic| walk_at "fn") => `(tactic| with_reducible (first | refine' fn_law_mul ?_ | refine' fn_law_divrem ?_ | refine' fn_law_together ?_))
local macro_rules | `(tactic| walk_at "trs") => `(tactic| first
  | refine' tr_assign ?_ (by walk_at "lk") (by with_unfolding_all walk_at "sto")
  | refine' tr_aug ?_ (by walk_at "lk") (by with_unfolding_all walk_at "sto")
  | refine' tr_if ?_ ?_ ?_
  | refine' tr_ret ?_
  | refine' tr_append ?_ ?_
  | refine' tr_while ?_ ?_
  | refine' tr_for ?_ ?_ (by walk_at "lk") (by with_unfolding_all walk_at "sto")
  | refine' tr_enum (by with_unfolding_all rfl) ns_enumerate ?_ ?_ (by walk_at "lk") (by with_unfolding_all walk_at "sto") (by walk_at "lk") (by with_unfolding_all walk_at "sto")
  | exact tr_cont
  | refine' tr_unpackX ?_ (by walk_at "nms") (by with_unfolding_all rfl)
  | refine' tr_unpack ?_ (by walk_at "tg")
  | refine' tr_setitem ?_ ?_ ?_
  | refine' tr_setattrG ?_ ?_
  | refine' tr_expr ?_
  | exact (tr_dead : TrS _ (Stmt.Raise _ _ _) _))
local macro_rules | `(tactic| walk_at "trb") => `(tactic| first
  | refine' trb_cons ?_ ?_
  | exact trb_nil)
local macro_rules | `(tactic| walk_at "trc") => `(tactic| first
  | refine' trc_cmp ?_ ?_
  | refine' trc_cmp2 ?_ ?_ ?_
  | refine' trc_and ?_ ?_
  | refine' trc_or ?_ ?_
  | refine' trc_not ?_
  | refine' trc_plain ?_)
local macro_rules | `(tactic| walk_at "trl") => `(tactic| first
  | refine' trl_cons ?_ ?_
  | exact trl_nil)
local macro_rules | `(tactic| walk_at "tri") => `(tactic| first
  | refine' tri_range (by with_unfolding_all rfl) ns_range ?_
  | refine' tri_rev (by with_unfolding_all rfl) ns_reversed ?_
  | refine' tri_list ?_)
local macro_rules | `(tactic| walk_at "tre") => `(tactic| first
  | exact tr_var (by walk_at "lk")
  | exact tr_globN (by with_unfolding_all rfl) (by walk_at "nf")
  | exact tr_glob (by with_unfolding_all rfl) ns_Montgomery
  | exact tr_lit
  | refine' tr_bin ?_ ?_
  | refine' tr_cut ?_ ?_ ?_
  | refine' tr_idx ?_ ?_
  | refine' tr_bcall len_ok boot_len (by with_unfolding_all rfl) ns_len ?_
  | refine' tr_bcall abs_ok boot_abs (by with_unfolding_all rfl) ns_abs ?_
  | refine' tr_bcall max_ok boot_max (by with_unfolding_all rfl) ns_max ?_
  | refine' tr_bcall min_ok boot_min (by with_unfolding_all rfl) ns_min ?_
  | refine' tr_tcall int_ok boot_int (by with_unfolding_all rfl) ns_int ?_
  | refine' tr_bitlen ?_
  | refine' (tr_ccall (fe := Expr.Name (Str.ofString "Montgomery") _) ?_ ?_)
  | refine' tr_callN (by with_unfolding_all rfl) (by walk_at "nf") ?_
  | refine' tr_call ?_ ?_
  | refine' tr_ite ?_ ?_ ?_
  | refine' tr_neg ?_
  | refine' tr_cmp ?_ ?_
  | refine' tr_list ?_
  | refine' tr_tup ?_
  | refine' tr_or ?_ ?_
  | refine' tr_attrG ?_
  | exact tr_none
  | exact tr_bool
  | exact tr_str)
local macro_rules | `(tactic| walk_at "tr") => `(tactic| with_reducible (first
  | (show Tr _ VR (eval _ _) _; walk_at "tre")
  | (show Tr _ VRs _ _; walk_at "trl")
  | (show Tr _ Eq _ _; walk_at "trc")
  | (show Tr _ FR (exec _ _) _; walk_at "trs")
  | (show Tr _ FR (execs _ _) _; walk_at "trb")
  | (show TrI _ _ _; walk_at "tri")
  | exact part_none
  | refine' part_some ?_))
local macro_rules | `(tactic| walk_at "set") => `(tactic| with_reducible (first | exact st0 | exact st1 | exact st2 | exact st3 | exact st4 | exact st5 | exact st6 | exact st7 | exact st8 | exact st9 | exact st10 | exact st11 | exact st12 | exact st13 | exact st14 | exact st15 | exact st16 | exact st17 | exact st18 | exact st19))
local macro_rules | `(tactic| walk_at "ds") => `(tactic| dsimp only [kv0, kv1, kv2, kv3, kv4, kv5, kv6, kv7, kv8, kv9, kv10, kv11, kv12, kv13, kv14, kv15, kv16, kv17, kv18, kv19, lt0, lt1, lt2, lt3, lt4, lt5, lt6, lt7, lt8, lt9, lt10, lt11, lt12, lt13, lt14, lt15, lt16, lt17, lt18, lt19, tn_next, tn_ret, tn_cont, bnd_eq])
local macro_rules | `(tactic| walk_at "rd") => `(tactic| first | with_reducible assumption | (with_reducible refine Hp.Sub.get (by assumption) ?_; walk_at "rd") | (with_reducible refine Sb.get (by assumption) ?_; walk_at "rd"))
local macro_rules | `(tactic| walk_at "own") => `(tactic| first | with_reducible assumption | (with_reducible refine (by assumption : Hp.Sub _ _).2.1 _ ?_; walk_at "own"))
local macro_rules | `(tactic| walk_at "vc") => `(tactic| first | walk_at "v1" | with_reducible refine vc_seq ?_ | with_reducible refine vc_iteE ?_)
local macro_rules | `(tactic| walk_at "v1") => `(tactic| with_reducible (first
  | (show bnd _ _ _ _; walk_at "ds")
  | (show thenK _ _ _ _; walk_at "ds")
  | (refine' gen_in ?_; intro _ _)
  | (show varK _ _ _; walk_at "ds")
  | (show letK _ _ _ _; walk_at "ds")
  | (show iteK _ _ _; first
    | refine' vc_if_t ?_
    | refine' vc_if_f ?_
    | refine' vc_if_not ?_
    | (refine' vc_if ?_ ?_ <;> intro _))
  | (show binK _ _ _ _ _; first
    | refine vq_add ?_
    | refine' vq_sub (by lia) ?_
    | refine' vq_mul (by lia) (by lia) ?_
    | refine' vq_mask ?_
    | refine' vq_and1 ?_
    | refine' vq_shr ?_
    | refine' vq_shl (by lia) (by lia) ?_
    | refine' vq_mod (by lia) ?_
    | refine' vq_fdiv (by lia) (by lia) ?_
    | refine' vq_pow (by lia) ?_
    | refine' vq_maskI ?_
    | refine' vq_modI (by lia) ?_
    | refine' vq_lowbit (by lia) ?_
    | refine' vq_or ?_ ?_
    | refine' vq_rep (by walk_at "rd") ?_ ?_
    | refine' vn_cat (by walk_at "rd") (by walk_at "rd") ?_ ?_
    | refine vc_add ?_
    | refine vc_sub ?_)
  | (show cmpC _ _ _ _ _; first
    | refine' vq_cmpLt ?_
    | refine' vq_cmpGe ?_
    | refine' vq_lt ?_
    | refine' vq_gt ?_
    | refine' vq_le ?_
    | refine' vq_ge ?_
    | refine' vq_eq ?_
    | refine' vq_ne ?_
    | refine' vn_eqL (by walk_at "rd") (by walk_at "rd") ?_
    | refine' vn_neL (by walk_at "rd") (by walk_at "rd") ?_
    | refine' vc_lt ?_
    | refine' vc_gt ?_
    | refine' vc_le ?_
    | refine' vc_ge ?_
    | refine' vc_eq ?_
    | refine' vc_ne ?_
    | refine' vc_isN_int ?_
    | refine' vc_isN_none ?_
    | refine' vc_isN_ref ?_
    | refine' vc_isN_str ?_)
  | (show fnK _ _ _ _; walk_at "fn")
  | (show callP _ _ _ _ _ _; walk_at "ct")
  | (refine' vc_mkL ?_; intro _ _ _ _ _ _)
  | (refine' vc_mkP ?_; intro _ _ _ _ _ _ _ _)
  | (refine' vc_mkO ?_; intro _ _ _ _)
  | (refine' vc_mkV ?_; intro _ _)
  | refine vc_callN ?_
  | refine vc_call ?_
  | refine' vn_len (by walk_at "rd") ?_ ?_
  | (show idxK _ _ _ _; first | refine' vq_tup1 (by walk_at "rd") ?_ | refine' vq_idx (by walk_at "rd") ?_ ?_ ?_ | refine' vq_last (by walk_at "rd") ?_ ?_ ?_)
  | (show augK _ _ _ _ _; first
    | refine vq_iadd ?_
    | refine' vq_isub (by lia) ?_
    | refine vq_ishr ?_
    | refine' vq_ior ?_ ?_
    | refine vc_iadd ?_
    | refine vc_isub ?_)
  | (show cutK _ _ _ _ _; first
    | refine' vn_cutA (by walk_at "rd") ?_ ?_
    | refine' vq_cutT (by walk_at "rd") ?_ ?_
    | refine' vq_cutF (by walk_at "rd") ?_ ?_)
  | (refine' vc_new ?_; intro _ _ _ _ _ _)
  | (show _ ∧ newK _ _ _; first | refine' vq_list0 ?_ | refine' vq_list1 ?_ | refine' vq_tup2 ?_ | refine' vq_list3 ?_ | refine' vq_list4 ?_)
  | (show (_ = _ ∧ _ ≤ _) ∧ _; first | refine' vc_swap2 ?_ | refine' vc_swap3 ?_)
  | (show letsK _ _ _ _; first | refine' vc_lets_cons (by walk_at "set") ?_ | refine' vc_lets_nil ?_)
  | refine vq_bits ?_
  | (show maxK _ _ _; first | refine vq_max ?_ | refine vq_max0 ?_)
  | refine vq_min ?_
  | refine vq_abs ?_
  | refine vq_int ?_
  | refine vc_neg ?_
  | refine vc_tru ?_
  | (show appK _ _ _ _; first
    | refine' vq_app (by walk_at "rd") (by walk_at "own") (by assumption) (by assumption) ?_ ?_
    | refine' vq_appI ?_ (by walk_at "rd") (by walk_at "own") (by assumption) (by assumption) ?_ ?_)
  | (show ∀ _ : Hp, Sb _ _ → _; intro _ _ _ _)
  | (show ∀ _ : Hp, SubBut _ _ _ → _; intro _ _ _ _)
  | refine' vn_isList (by walk_at "rd") ?_
  | (show rangeI _ _ _; first | refine' vq_range1 (by lia) ?_ | refine' vq_range2 (by lia) (by lia) ?_)
  | (show turnF _ _ _ _ _; first | refine vq_turn ?_ | refine vq_turnR ?_)
  | (show retK _ _ _ _; first | refine vc_retK ?_ | refine vc_retN ?_)
  | (show _ ≤ _; lia)
  | (show _ < _; first | assumption | lia)
  | (show False; omega)
  | refine' gen_use (by assumption) ?_
  | (show AV.none = AV.none ∧ _; refine vq_expr ?_)
  | walk_at "ds"))
section
variable {W : World} {B : Heap} {D : Nat} {H : Hp} {Q : AV → Hp → Prop} {w : Nat}
theorem normal_ok {a : Addr} {ds : List Nat} (ha : H.rd a = some (LN ds)) (hl : ds.length ≤ 1000) (k : RetL H (strip ds) Q) : callP (gs W B) (D + 1) 70 [.ref a] H Q := by
  refine' callP_def0 (Wb := _) (hK := rfl) rfl rfl rfl rfl rfl [Str.ofString "a"] [Str.ofString "end"] (by decide) rfl rfl rfl ?hb ?hw [some (.ref a), none] rfl ?hv
  case hb => exact fun vs hv => vrs_all (P := fun vs => bindArgs _ ⟨vs, []⟩ = pure (List.zip _ vs)) hv (fun _ => rfl)
  case hw =>
    intro A L
    simp only [List.cons_append, List.nil_append]
    repeat' walk_at "tr"
  case' hv => skip
  repeat' walk_at "vc"
  refine vq_while (fun n σ => n ≤ ds.length ∧ σ = ⟨[some (.ref a), some (.int (n : Int))], H⟩ ∧ ∀ i : Nat, n ≤ i → ds.getD i 0 = 0) ds.length ⟨Nat.le_refl _, rfl, fun i hi => by simp [hi]⟩ ?_
  intro n σ hh0
  first
    | (refine ex1 hh0 fun h1 hh1 => ?_; refine an2 hh1 fun hr0 h3 => ?_; clear hh1 hh0; subst hr0)
    | (refine an3 hh0 fun h1 hr0 h3 => ?_; clear hh0; subst hr0)
    | obtain ⟨h1, rfl, h3⟩ := hh0
  repeat' walk_at "vc"
  · rename_i g0 g1
    refine vq_loop (n - 1) (by (first | lia | omega)) ⟨by (first | lia | omega), rfl, fun i hi => ?_⟩
    by_cases e : i = n - 1
    · rw [e]; exact g1
    · exact h3 i (by (first | lia | omega))
  · rename_i g0 g1 q H' s1 n1 e1 o1
    rw [strip_take h1 h3 (.inr g1)] at e1
    exact k.done s1.sb n1 e1 o1
  · rename_i g0 q H' s1 n1 e1 o1
    rw [strip_take h1 h3 (.inl (by (first | lia | omega)))] at e1
    exact k.done s1.sb n1 e1 o1
local macro_rules | `(tactic| walk_at "ct") => `(tactic| with_reducible refine' normal_ok (by walk_at "rd") ?_ ?_)
theorem is_even_ok {a : Addr} {x : Nat} (hw : 2 ≤ w ∧ w ≤ 9) (ha : H.rd a = some (LN (dg (2 ^ w) x))) (hx : x < 2 ^ 200) (k : RetV H (.bool (decide (x % 2 = 0))) Q) : callP (gs W B) (D + 1) 77 [.ref a] H Q := by
  obtain ⟨b1, b2⟩ := pw hw
  have hl := dg_len_small (b := 2 ^ w) (by (first | lia | omega)) hx
  refine' callP_def0 (Wb := _) (hK := rfl) rfl rfl rfl rfl rfl [Str.ofString "a"] [] (by decide) rfl rfl rfl ?hb ?hw [some (.ref a)] rfl ?hv
  case hb => exact fun vs hv => vrs_all (P := fun vs => bindArgs _ ⟨vs, []⟩ = pure (List.zip _ vs)) hv (fun _ => rfl)
  case hw =>
    intro A L
    simp only [List.cons_append, List.nil_append]
    repeat' walk_at "tr"
  case' hv => skip
  repeat' walk_at "vc"
  · rename_i g
    rw [dg_len_zero (by (first | lia | omega))] at g
    subst g
    exact k.done .refl
  · rename_i g
    rw [even_dg hw.1]
    exact k.done .refl
theorem compare_ok {a c : Addr} {x y : Nat} (hw : 2 ≤ w ∧ w ≤ 9) (ha : H.rd a = some (LN (dg (2 ^ w) x))) (hc : H.rd c = some (LN (dg (2 ^ w) y))) (hx : x < 2 ^ 200) (hy : y < 2 ^ 200) (k : RetV H (cmpI x y) Q) : callP (gs W B) (D + 1) 84 [.ref a, .ref c] H Q := by
  obtain ⟨b1, b2⟩ := pw hw
  have hl := dg_len_small (b := 2 ^ w) (by (first | lia | omega)) hx
  have hl' := dg_len_small (b := 2 ^ w) (by (first | lia | omega)) hy
  refine' callP_def0 (Wb := _) (hK := rfl) rfl rfl rfl rfl rfl [Str.ofString "a", Str.ofString "b"] [Str.ofString "at"] (by decide) rfl rfl rfl ?hb ?hw [some (.ref a), some (.ref c), none] rfl ?hv
  case hb => exact fun vs hv => vrs_all (P := fun vs => bindArgs _ ⟨vs, []⟩ = pure (List.zip _ vs)) hv (fun _ _ => rfl)
  case hw =>
    intro A L
    simp only [List.cons_append, List.nil_append]
    repeat' walk_at "tr"
  case' hv => skip
  repeat' walk_at "vc"
  · rename_i g1 g2
    rw [cmpI_lt (dg_len_lt (by (first | lia | omega)) g2)] at k
    exact k.done .refl
  · rename_i g1 g2
    rw [cmpI_gt (dg_len_lt (b := 2 ^ w) (by (first | lia | omega)) (by (first | lia | omega)))] at k
    exact k.done .refl
  · rename_i g
    have e : (dg (2 ^ w) x).length = (dg (2 ^ w) y).length := by (first | lia | omega)
    generalize hn : (dg (2 ^ w) y).length = n at *
    have hx' := dg_lt (b := 2 ^ w) (by (first | lia | omega)) x
    have hy' := dg_lt (b := 2 ^ w) (by (first | lia | omega)) y
    rw [e] at hx'
    rw [hn] at hy'
    refine vq_rangeD 0 n (by (first | lia | omega)) (by (first | lia | omega)) (by (first | lia | omega)) (vq_forD (fun j σ => (∃ o, σ = ⟨[some (.ref a), some (.ref c), o], H⟩) ∧ x / (2 ^ w) ^ (n - j) = y / (2 ^ w) ^ (n - j)) ⟨⟨_, rfl⟩, ?_⟩ ?_ ?_)
    · rw [Nat.sub_zero, Nat.div_eq_of_lt hx', Nat.div_eq_of_lt hy']
    · rintro j σ hj ⟨⟨o, rfl⟩, hI⟩
      have e2 : n - j = (n - (j + 1)) + 1 := by (first | lia | omega)
      rw [e2] at hI
      have e3 : 0 + n - 1 - j = n - (j + 1) := by (first | lia | omega)
      rw [e3]
      have d1 := dg_getD (b := 2 ^ w) (by (first | lia | omega)) x (n - (j + 1))
      have d2 := dg_getD (b := 2 ^ w) (by (first | lia | omega)) y (n - (j + 1))
      repeat' walk_at "vc"
      · rename_i g1 g2
        rw [d1, d2] at g2
        rw [cmpI_lt (top_lt hI g2)] at k
        exact k.done .refl
      · rename_i g1 g2
        rw [d1, d2] at g1 g2
        rw [cmpI_gt (top_lt hI.symm (by (first | lia | omega)))] at k
        exact k.done .refl
      · rename_i g1
        rw [d1, d2] at g1
        exact ⟨⟨_, rfl⟩, top_eq hI (by (first | lia | omega))⟩
    · rintro σ ⟨⟨o, rfl⟩, hI⟩
      rw [Nat.sub_self, Nat.pow_zero, Nat.div_one, Nat.div_one] at hI
      subst hI
      rw [cmpI_eq] at k
      repeat' walk_at "vc"
      exact k.done .refl
theorem lifted_ok {a : Addr} {x n : Nat} (hw : 2 ≤ w ∧ w ≤ 9) (ha : H.rd a = some (LN (dg (2 ^ w) x))) (hx : x < 2 ^ 200) (hn : n ≤ 1000) (k : RetL H (dg (2 ^ w) (x * (2 ^ w) ^ n)) Q) : callP (gs W B) (D + 1) 105 [.ref a, .int (n : Int)] H Q := by
  obtain ⟨b1, b2⟩ := pw hw
  have hl := dg_len_small (b := 2 ^ w) (by (first | lia | omega)) hx
  refine' callP_def0 (Wb := _) (hK := rfl) rfl rfl rfl rfl rfl [Str.ofString "a", Str.ofString "spot"] [] (by decide) rfl rfl rfl ?hb ?hw [some (.ref a), some (.int (n : Int))] rfl ?hv
  case hb => exact fun vs hv => vrs_all (P := fun vs => bindArgs _ ⟨vs, []⟩ = pure (List.zip _ vs)) hv (fun _ _ => rfl)
  case hw =>
    intro A L
    simp only [List.cons_append, List.nil_append]
    repeat' walk_at "tr"
  case' hv => skip
  repeat' walk_at "vc"
  · simp; (first | lia | omega)
  · rename_i g q0 H0 s0 n0 e0 o0 q1 H1 s1 n1 e1 o1 q2 H2 s2 n2 e2 o2
    have hx0 : 0 < x := by
      rcases Nat.eq_zero_or_pos x with h | h
      · rw [h, dg_zero] at g; exact absurd g (by decide)
      · exact h
    rw [dg_lift (by (first | lia | omega)) hx0] at e2
    exact k.done ((s0.trans s1).trans s2).sb ((s0.trans s1).sb.none' n2) e2 o2
  · rename_i g q0 H0 s0 n0 e0 o0
    have : x = 0 := by rw [← dg_len_zero (b := 2 ^ w) (by (first | lia | omega))]; (first | lia | omega)
    rw [this, Nat.zero_mul, dg_zero] at k
    exact k.done s0.sb n0 e0 o0
theorem bits_ok {a : Addr} {x : Nat} (hw : 2 ≤ w ∧ w ≤ 9) (ha : H.rd a = some (LN (dg (2 ^ w) x))) (hx : x < 2 ^ 200) (k : RetV H (.int ((bl x : Nat) : Int)) Q) : callP (gs W B) (D + 1) 126 [.ref a, .int (w : Int)] H Q := by
  obtain ⟨b1, b2⟩ := pw hw
  have hl := dg_len_small (b := 2 ^ w) (by (first | lia | omega)) hx
  refine' callP_def0 (Wb := _) (hK := rfl) rfl rfl rfl rfl rfl [Str.ofString "a", Str.ofString "w"] [] (by decide) rfl rfl rfl ?hb ?hw [some (.ref a), some (.int (w : Int))] rfl ?hv
  case hb => exact fun vs hv => vrs_all (P := fun vs => bindArgs _ ⟨vs, []⟩ = pure (List.zip _ vs)) hv (fun _ _ => rfl)
  case hw =>
    intro A L
    simp only [List.cons_append, List.nil_append]
    repeat' walk_at "tr"
  case' hv => skip
  repeat' walk_at "vc"
  · rename_i g
    rw [bl_top hw.1 g]
    exact k.done .refl
  · rename_i g
    have : x = 0 := by rw [← dg_len_zero (b := 2 ^ w) (by (first | lia | omega))]; (first | lia | omega)
    subst this
    exact k.done .refl
theorem bit_ok {a : Addr} {x n : Nat} (hw : 2 ≤ w ∧ w ≤ 9) (ha : H.rd a = some (LN (dg (2 ^ w) x))) (hx : x < 2 ^ 200) (k : RetV H (.int ((x / 2 ^ n % 2 : Nat) : Int)) Q) : callP (gs W B) (D + 1) 133 [.ref a, .int (n : Int), .int (w : Int)] H Q := by
  obtain ⟨b1, b2⟩ := pw hw
  have hl := dg_len_small (b := 2 ^ w) (by (first | lia | omega)) hx
  refine' callP_def0 (Wb := _) (hK := rfl) rfl rfl rfl rfl rfl [Str.ofString "a", Str.ofString "n", Str.ofString "w"] [] (by decide) rfl rfl rfl ?hb ?hw [some (.ref a), some (.int (n : Int)), some (.int (w : Int))] rfl ?hv
  case hb => exact fun vs hv => vrs_all (P := fun vs => bindArgs _ ⟨vs, []⟩ = pure (List.zip _ vs)) hv (fun _ _ _ => rfl)
  case hw =>
    intro A L
    simp only [List.cons_append, List.nil_append]
    repeat' walk_at "tr"
  case' hv => skip
  repeat' walk_at "vc"
  · rename_i g
    rw [bit_dg hw.1]
    exact k.done .refl
  · rename_i g
    rw [bit_high hw.1 g] at k
    exact k.done .refl
theorem low_limbs_ok {a : Addr} {x n : Nat} (hw : 2 ≤ w ∧ w ≤ 9) (ha : H.rd a = some (LN (dg (2 ^ w) x))) (hx : x < 2 ^ 200) (k : RetL H (dg (2 ^ w) (x % (2 ^ w) ^ n)) Q) : callP (gs W B) (D + 2) 161 [.ref a, .int (n : Int)] H Q := by
  obtain ⟨b1, b2⟩ := pw hw
  have hl := dg_len_small (b := 2 ^ w) (by (first | lia | omega)) hx
  refine' callP_def0 (Wb := _) (hK := rfl) rfl rfl rfl rfl rfl [Str.ofString "a", Str.ofString "n"] [] (by decide) rfl rfl rfl ?hb ?hw [some (.ref a), some (.int (n : Int))] rfl ?hv
  case hb => exact fun vs hv => vrs_all (P := fun vs => bindArgs _ ⟨vs, []⟩ = pure (List.zip _ vs)) hv (fun _ _ => rfl)
  case hw =>
    intro A L
    simp only [List.cons_append, List.nil_append]
    repeat' walk_at "tr"
  case' hv => skip
  repeat' walk_at "vc"
  · simp; (first | lia | omega)
  · rename_i q0 H0 s0 n0 e0 o0 q1 H1 s1 n1 e1 o1
    rw [take_dg (by (first | lia | omega))] at e1
    exact k.done (s0.trans s1).sb (s0.sb.none' n1) e1 o1
end
local macro_rules | `(tactic| walk_at "ct") => `(tactic| with_reducible refine' normal_ok (by walk_at "rd") ?_ ?_)
local macro_rules | `(tactic| walk_at "ct") => `(tactic| with_reducible refine' is_even_ok (by assumption) (by walk_at "rd") ?_ ?_)
local macro_rules | `(tactic| walk_at "ct") => `(tactic| with_reducible refine' compare_ok (by assumption) (by walk_at "rd") (by walk_at "rd") ?_ ?_ ?_)
local macro_rules | `(tactic| walk_at "ct") => `(tactic| with_reducible refine' lifted_ok (by assumption) (by walk_at "rd") ?_ ?_ ?_)
local macro_rules | `(tactic| walk_at "ct") => `(tactic| with_reducible refine' bits_ok (by assumption) (by walk_at "rd") ?_ ?_)
local macro_rules | `(tactic| walk_at "ct") => `(tactic| with_reducible refine' bit_ok (by assumption) (by walk_at "rd") ?_ ?_)
local macro_rules | `(tactic| walk_at "ct") => `(tactic| with_reducible refine' low_limbs_ok (by assumption) (by walk_at "rd") ?_ ?_)
section
variable {W : World} {B : Heap} {D : Nat} {H : Hp} {Q : AV → Hp → Prop} {w : Nat}
theorem add_ok {a c : Addr} {x y : Nat} (hw : 2 ≤ w ∧ w ≤ 9) (ha : H.rd a = some (LN (dg (2 ^ w) x))) (hc : H.rd c = some (LN (dg (2 ^ w) y))) (hx : x < 2 ^ 200) (hy : y < 2 ^ 200) (k : RetL H (dg (2 ^ w) (x + y)) Q) : callP (gs W B) (D + 1) 91 [.ref a, .ref c, .int (w : Int)] H Q := by
  obtain ⟨b1, b2⟩ := pw hw
  refine' callP_def0 (Wb := _) (hK := rfl) rfl rfl rfl rfl rfl [Str.ofString "a", Str.ofString "b", Str.ofString "w"] [Str.ofString "found", Str.ofString "carry", Str.ofString "mask", Str.ofString "at"] (by decide) rfl rfl rfl ?hb ?hw [some (.ref a), some (.ref c), some (.int (w : Int)), none, none, none, none] rfl ?hv
  case hb => exact fun vs hv => vrs_all (P := fun vs => bindArgs _ ⟨vs, []⟩ = pure (List.zip _ vs)) hv (fun _ _ _ => rfl)
  case hw =>
    intro A L
    simp only [List.cons_append, List.nil_append]
    repeat' walk_at "tr"
  case' hv => skip
  refine vc_cut (fun σ => ∃ p q X Y, σ = ⟨[some (.ref p), some (.ref q), some (.int (w : Int)), none, none, none, none], H⟩ ∧ H.rd p = some (LN (dg (2 ^ w) X)) ∧ H.rd q = some (LN (dg (2 ^ w) Y)) ∧ X < 2 ^ 200 ∧ Y < 2 ^ 200 ∧ (dg (2 ^ w) Y).length ≤ (dg (2 ^ w) X).length ∧ X + Y = x + y) ?_ ?_
  · intro X hX1 hX2
    have hl := dg_len_small (b := 2 ^ w) (by (first | lia | omega)) hx
    have hl' := dg_len_small (b := 2 ^ w) (by (first | lia | omega)) hy
    repeat' walk_at "vc"
    · exact hX1 _ ⟨_, _, _, _, rfl, hc, ha, hy, hx, by (first | lia | omega), by (first | lia | omega)⟩
    · exact hX1 _ ⟨_, _, _, _, rfl, ha, hc, hx, hy, by (first | lia | omega), rfl⟩
  intro σ hh0
  first
    | (refine ex4 hh0 fun p q X Y hh1 => ?_; refine an7 hh1 fun hr0 hp hq hX hY hle hs => ?_; clear hh1 hh0; subst hr0)
    | (refine an11 hh0 fun p q X Y hr0 hp hq hX hY hle hs => ?_; clear hh0; subst hr0)
    | (refine ex1 hh0 fun p hh1 => ?_; refine an10 hh1 fun q X Y hr0 hp hq hX hY hle hs => ?_; clear hh1 hh0; subst hr0)
    | (refine ex2 hh0 fun p q hh1 => ?_; refine an9 hh1 fun X Y hr0 hp hq hX hY hle hs => ?_; clear hh1 hh0; subst hr0)
    | (refine ex3 hh0 fun p q X hh1 => ?_; refine an8 hh1 fun Y hr0 hp hq hX hY hle hs => ?_; clear hh1 hh0; subst hr0)
    | obtain ⟨p, q, X, Y, rfl, hp, hq, hX, hY, hle, hs⟩ := hh0
  have hl := dg_len_small (b := 2 ^ w) (by (first | lia | omega)) hX
  have hl' := dg_len_small (b := 2 ^ w) (by (first | lia | omega)) hY
  generalize hn : (dg (2 ^ w) X).length = n at *
  generalize hm : (dg (2 ^ w) Y).length = m at *
  repeat' walk_at "vc"
  rename_i f H₁ s1 n1 e1 o1
  refine vq_forU (fun j σ => ∃ H' fs cy o, σ = ⟨[some (.ref p), some (.ref q), some (.int (w : Int)), some (.ref f), some (.int ((cy : Nat) : Int)), some (.int ((1 * 2 ^ w - 1 : Nat) : Int)), o], H'⟩ ∧ Sb H H' ∧ H'.rd f = some (LN fs) ∧ H'.own f ∧ Dig (2 ^ w) fs ∧ fs.length = j ∧ cy ≤ 1 ∧ num (2 ^ w) fs + (2 ^ w) ^ j * cy = X % (2 ^ w) ^ j + Y % (2 ^ w) ^ j)
    ⟨_, [], 0, _, rfl, s1.sb, e1, o1, .nil, rfl, by (first | lia | omega), by simp [num, Nat.mod_one]⟩ ?_ ?_
  · intro j σ hj hh0
    first
      | (refine ex4 hh0 fun H' fs cy o hh1 => ?_; refine an8 hh1 fun hr0 hs' hf ho hD hlf hcy hI => ?_; clear hh1 hh0; subst hr0)
      | (refine an12 hh0 fun H' fs cy o hr0 hs' hf ho hD hlf hcy hI => ?_; clear hh0; subst hr0)
      | (refine ex1 hh0 fun H' hh1 => ?_; refine an11 hh1 fun fs cy o hr0 hs' hf ho hD hlf hcy hI => ?_; clear hh1 hh0; subst hr0)
      | (refine ex2 hh0 fun H' fs hh1 => ?_; refine an10 hh1 fun cy o hr0 hs' hf ho hD hlf hcy hI => ?_; clear hh1 hh0; subst hr0)
      | (refine ex3 hh0 fun H' fs cy hh1 => ?_; refine an9 hh1 fun o hr0 hs' hf ho hD hlf hcy hI => ?_; clear hh1 hh0; subst hr0)
      | obtain ⟨H', fs, cy, o, rfl, hs', hf, ho, hD, hlf, hcy, hI⟩ := hh0
    simp only [Nat.zero_add]
    have g1 := dg_getD (b := 2 ^ w) (by (first | lia | omega)) X j
    have g2 := dg_getD (b := 2 ^ w) (by (first | lia | omega)) Y j
    have g3 := (Dig_dg (b := 2 ^ w) (by (first | lia | omega)) X).getD (by (first | lia | omega)) j
    have g4 := (Dig_dg (b := 2 ^ w) (by (first | lia | omega)) Y).getD (by (first | lia | omega)) j
    have hp' := hs'.get hp
    have hq' := hs'.get hq
    repeat' walk_at "vc"
    rename_i H2 s2 e2 o2
    first | refine exI4 _ _ _ _ ⟨rfl, s2, e2, o2, hD.snoc (Nat.mod_lt _ (by (first | lia | omega))), by simp [hlf], ?_, ?_⟩ | refine ⟨_, _, _, _, rfl, s2, e2, o2, hD.snoc (Nat.mod_lt _ (by (first | lia | omega))), by simp [hlf], ?_, ?_⟩
    · have : cy + ((dg (2 ^ w) X).getD j 0 + (dg (2 ^ w) Y).getD j 0) < 2 * 2 ^ w := by (first | lia | omega)
      have := Nat.div_lt_of_lt_mul (by (first | lia | omega) : cy + ((dg (2 ^ w) X).getD j 0 + (dg (2 ^ w) Y).getD j 0) < 2 ^ w * 2)
      (first | lia | omega)
    · rw [carry_step hlf, mod_succ X, mod_succ Y, ← g1, ← g2, Nat.mul_add, Nat.mul_add]
      (first | lia | omega)
  intro σ hh0
  first
    | (refine ex4 hh0 fun H2 fs cy o hh1 => ?_; refine an8 hh1 fun hr0 hs2 hf ho hD hlf hcy hI => ?_; clear hh1 hh0; subst hr0)
    | (refine an12 hh0 fun H2 fs cy o hr0 hs2 hf ho hD hlf hcy hI => ?_; clear hh0; subst hr0)
    | (refine ex1 hh0 fun H2 hh1 => ?_; refine an11 hh1 fun fs cy o hr0 hs2 hf ho hD hlf hcy hI => ?_; clear hh1 hh0; subst hr0)
    | (refine ex2 hh0 fun H2 fs hh1 => ?_; refine an10 hh1 fun cy o hr0 hs2 hf ho hD hlf hcy hI => ?_; clear hh1 hh0; subst hr0)
    | (refine ex3 hh0 fun H2 fs cy hh1 => ?_; refine an9 hh1 fun o hr0 hs2 hf ho hD hlf hcy hI => ?_; clear hh1 hh0; subst hr0)
    | obtain ⟨H2, fs, cy, o, rfl, hs2, hf, ho, hD, hlf, hcy, hI⟩ := hh0
  have hYm : Y % (2 ^ w) ^ m = Y := Nat.mod_eq_of_lt (hm ▸ dg_lt (by (first | lia | omega)) Y)
  have hXn : X % (2 ^ w) ^ n = X := Nat.mod_eq_of_lt (hn ▸ dg_lt (by (first | lia | omega)) X)
  rw [hm] at hI hlf
  rw [hYm] at hI
  have hp2 := hs2.get hp
  have hq2 := hs2.get hq
  repeat' walk_at "vc"
  refine vq_forU (fun j σ => ∃ H' fs cy o, σ = ⟨[some (.ref p), some (.ref q), some (.int (w : Int)), some (.ref f), some (.int ((cy : Nat) : Int)), some (.int ((1 * 2 ^ w - 1 : Nat) : Int)), o], H'⟩ ∧ Sb H H' ∧ H'.rd f = some (LN fs) ∧ H'.own f ∧ Dig (2 ^ w) fs ∧ fs.length = m + j ∧ cy ≤ 1 ∧ num (2 ^ w) fs + (2 ^ w) ^ (m + j) * cy = X % (2 ^ w) ^ (m + j) + Y)
    ⟨_, fs, cy, _, rfl, hs2, hf, ho, hD, hlf, hcy, hI⟩ ?_ ?_
  · intro j σ hj hh0
    first
      | (refine ex4 hh0 fun H' fs cy o hh1 => ?_; refine an8 hh1 fun hr0 hs' hf ho hD hlf hcy hI => ?_; clear hh1 hh0; subst hr0)
      | (refine an12 hh0 fun H' fs cy o hr0 hs' hf ho hD hlf hcy hI => ?_; clear hh0; subst hr0)
      | (refine ex1 hh0 fun H' hh1 => ?_; refine an11 hh1 fun fs cy o hr0 hs' hf ho hD hlf hcy hI => ?_; clear hh1 hh0; subst hr0)
      | (refine ex2 hh0 fun H' fs hh1 => ?_; refine an10 hh1 fun cy o hr0 hs' hf ho hD hlf hcy hI => ?_; clear hh1 hh0; subst hr0)
      | (refine ex3 hh0 fun H' fs cy hh1 => ?_; refine an9 hh1 fun o hr0 hs' hf ho hD hlf hcy hI => ?_; clear hh1 hh0; subst hr0)
      | obtain ⟨H', fs, cy, o, rfl, hs', hf, ho, hD, hlf, hcy, hI⟩ := hh0
    rw [hm]
    have g1 := dg_getD (b := 2 ^ w) (by (first | lia | omega)) X (m + j)
    have g3 := (Dig_dg (b := 2 ^ w) (by (first | lia | omega)) X).getD (by (first | lia | omega)) (m + j)
    have hp' := hs'.get hp
    repeat' walk_at "vc"
    rename_i H2 s2 e2 o2
    first | refine exI4 _ _ _ _ ⟨rfl, s2, e2, o2, hD.snoc (Nat.mod_lt _ (by (first | lia | omega))), by simp [hlf]; (first | lia | omega), ?_, ?_⟩ | refine ⟨_, _, _, _, rfl, s2, e2, o2, hD.snoc (Nat.mod_lt _ (by (first | lia | omega))), by simp [hlf]; (first | lia | omega), ?_, ?_⟩
    · have := Nat.div_lt_of_lt_mul (by (first | lia | omega) : cy + (dg (2 ^ w) X).getD (m + j) 0 < 2 ^ w * 2)
      (first | lia | omega)
    · rw [← Nat.add_assoc, carry_step hlf, mod_succ X, ← g1, Nat.mul_add]
      (first | lia | omega)
  intro σ hh0
  first
    | (refine ex4 hh0 fun H2 fs cy o hh1 => ?_; refine an8 hh1 fun hr0 hs2 hf ho hD hlf hcy hI => ?_; clear hh1 hh0; subst hr0)
    | (refine an12 hh0 fun H2 fs cy o hr0 hs2 hf ho hD hlf hcy hI => ?_; clear hh0; subst hr0)
    | (refine ex1 hh0 fun H2 hh1 => ?_; refine an11 hh1 fun fs cy o hr0 hs2 hf ho hD hlf hcy hI => ?_; clear hh1 hh0; subst hr0)
    | (refine ex2 hh0 fun H2 fs hh1 => ?_; refine an10 hh1 fun cy o hr0 hs2 hf ho hD hlf hcy hI => ?_; clear hh1 hh0; subst hr0)
    | (refine ex3 hh0 fun H2 fs cy hh1 => ?_; refine an9 hh1 fun o hr0 hs2 hf ho hD hlf hcy hI => ?_; clear hh1 hh0; subst hr0)
    | obtain ⟨H2, fs, cy, o, rfl, hs2, hf, ho, hD, hlf, hcy, hI⟩ := hh0
  rw [hn, hm] at hI hlf
  rw [show m + (n - m) = n by (first | lia | omega)] at hI hlf
  rw [hXn] at hI
  repeat' walk_at "vc"
  · rename_i g H3 s3 e3 o3
    rw [snoc_end (t := X + Y) (by (first | lia | omega)) hD (by (first | lia | omega)) g (by rw [hlf]; exact hI), hs] at e3
    exact k.done s3 n1 e3 o3
  · rename_i g
    rw [add_end (by (first | lia | omega)) hD hlf hn.symm hI (by (first | lia | omega)), hs] at hf
    exact k.done hs2 n1 hf ho
end
local macro_rules | `(tactic| walk_at "ct") => `(tactic| with_reducible refine' add_ok (by assumption) (by walk_at "rd") (by walk_at "rd") ?_ ?_ ?_)
section
variable {W : World} {B : Heap} {D : Nat} {H : Hp} {Q : AV → Hp → Prop} {w : Nat}
theorem sub_ok {a c : Addr} {x y : Nat} (hw : 2 ≤ w ∧ w ≤ 9) (ha : H.rd a = some (LN (dg (2 ^ w) x))) (hc : H.rd c = some (LN (dg (2 ^ w) y))) (hx : x < 2 ^ 200) (hyx : y ≤ x) (k : RetL H (dg (2 ^ w) (x - y)) Q) : callP (gs W B) (D + 2) 98 [.ref a, .ref c, .int (w : Int)] H Q := by
  obtain ⟨b1, b2⟩ := pw hw
  refine' callP_def0 (Wb := _) (hK := rfl) rfl rfl rfl rfl rfl [Str.ofString "a", Str.ofString "b", Str.ofString "w"] [Str.ofString "found", Str.ofString "borrow", Str.ofString "base", Str.ofString "at", Str.ofString "limb"] (by decide) rfl rfl rfl ?hb ?hw [some (.ref a), some (.ref c), some (.int (w : Int)), none, none, none, none, none] rfl ?hv
  case hb => exact fun vs hv => vrs_all (P := fun vs => bindArgs _ ⟨vs, []⟩ = pure (List.zip _ vs)) hv (fun _ _ _ => rfl)
  case hw =>
    intro A L
    simp only [List.cons_append, List.nil_append]
    repeat' walk_at "tr"
  case' hv => skip
  have hl := dg_len_small (b := 2 ^ w) (by (first | lia | omega)) hx
  have hl' := dg_len_mono (b := 2 ^ w) (by (first | lia | omega)) hyx
  repeat' walk_at "vc"
  rename_i H0 s0 _ f H₁ s1 n1 e1 o1
  have s01 := s0.trans s1
  have n0 := s0.sb.none' n1
  refine vq_forU (fun j σ => ∃ H' fs br o o2, σ = ⟨[some (.ref a), some (.ref c), some (.int (w : Int)), some (.ref f), some (.int ((br : Nat) : Int)), some (.int ((1 * 2 ^ w : Nat) : Int)), o, o2], H'⟩ ∧ Sb H H' ∧ H'.rd f = some (LN fs) ∧ H'.own f ∧ Dig (2 ^ w) fs ∧ fs.length = j ∧ br ≤ 1 ∧ num (2 ^ w) fs + y % (2 ^ w) ^ j = x % (2 ^ w) ^ j + (2 ^ w) ^ j * br)
    ⟨_, [], 0, _, _, rfl, s01.sb, e1, o1, .nil, rfl, by (first | lia | omega), by simp [num, Nat.mod_one]⟩ ?_ ?_
  · intro j σ hj hh0
    first
      | (refine ex5 hh0 fun H' fs br o o2 hh1 => ?_; refine an8 hh1 fun hr0 hs' hf ho hD hlf hbr hI => ?_; clear hh1 hh0; subst hr0)
      | (refine an13 hh0 fun H' fs br o o2 hr0 hs' hf ho hD hlf hbr hI => ?_; clear hh0; subst hr0)
      | (refine ex1 hh0 fun H' hh1 => ?_; refine an12 hh1 fun fs br o o2 hr0 hs' hf ho hD hlf hbr hI => ?_; clear hh1 hh0; subst hr0)
      | (refine ex2 hh0 fun H' fs hh1 => ?_; refine an11 hh1 fun br o o2 hr0 hs' hf ho hD hlf hbr hI => ?_; clear hh1 hh0; subst hr0)
      | (refine ex3 hh0 fun H' fs br hh1 => ?_; refine an10 hh1 fun o o2 hr0 hs' hf ho hD hlf hbr hI => ?_; clear hh1 hh0; subst hr0)
      | (refine ex4 hh0 fun H' fs br o hh1 => ?_; refine an9 hh1 fun o2 hr0 hs' hf ho hD hlf hbr hI => ?_; clear hh1 hh0; subst hr0)
      | obtain ⟨H', fs, br, o, o2, rfl, hs', hf, ho, hD, hlf, hbr, hI⟩ := hh0
    simp only [Nat.zero_add]
    have g1 := dg_getD (b := 2 ^ w) (by (first | lia | omega)) x j
    have g2 := dg_getD (b := 2 ^ w) (by (first | lia | omega)) y j
    have g3 := (Dig_dg (b := 2 ^ w) (by (first | lia | omega)) x).getD (by (first | lia | omega)) j
    have g4 := (Dig_dg (b := 2 ^ w) (by (first | lia | omega)) y).getD (by (first | lia | omega)) j
    have ha' := hs'.get ha
    have hc' := hs'.get hc
    have key : ∀ (z br' : Nat) e, e = y / (2 ^ w) ^ j % 2 ^ w → z + br + e = (dg (2 ^ w) x).getD j 0 + 2 ^ w * br' → num (2 ^ w) (fs ++ [z]) + y % (2 ^ w) ^ (j + 1) = x % (2 ^ w) ^ (j + 1) + (2 ^ w) ^ (j + 1) * br' := by
      intro z br' e he hz
      rw [num_snoc, hlf, mod_succ x, mod_succ y, ← g1, ← he, Nat.pow_succ]
      have := sub_step (p := (2 ^ w) ^ j) hI hz
      (first | lia | omega)
    have hi : ¬ j < (dg (2 ^ w) y).length → y / (2 ^ w) ^ j % 2 ^ w = 0 := by
      intro h
      rw [← g2]; simp [Nat.not_lt.mp h]
    repeat' walk_at "vc"
    all_goals (rename_i c1 c2 c3 H2 s2 e2 o2; first
      | (exfalso; (first | lia | omega))
      | exact ⟨_, _, 1, _, _, rfl, s2, e2, o2, hD.snoc (by (first | lia | omega)), by simp [hlf], by (first | lia | omega), key _ 1 _ g2 (by (first | lia | omega))⟩
      | exact ⟨_, _, 0, _, _, rfl, s2, e2, o2, hD.snoc (by (first | lia | omega)), by simp [hlf], by (first | lia | omega), key _ 0 _ g2 (by (first | lia | omega))⟩
      | exact ⟨_, _, 1, _, _, rfl, s2, e2, o2, hD.snoc (by (first | lia | omega)), by simp [hlf], by (first | lia | omega), key _ 1 0 (hi c1).symm (by (first | lia | omega))⟩
      | exact ⟨_, _, 0, _, _, rfl, s2, e2, o2, hD.snoc (by (first | lia | omega)), by simp [hlf], by (first | lia | omega), key _ 0 0 (hi c1).symm (by (first | lia | omega))⟩)
  intro σ hh0
  first
    | (refine ex5 hh0 fun H2 fs br o o2 hh1 => ?_; refine an8 hh1 fun hr0 hs2 hf ho hD hlf hbr hI => ?_; clear hh1 hh0; subst hr0)
    | (refine an13 hh0 fun H2 fs br o o2 hr0 hs2 hf ho hD hlf hbr hI => ?_; clear hh0; subst hr0)
    | (refine ex1 hh0 fun H2 hh1 => ?_; refine an12 hh1 fun fs br o o2 hr0 hs2 hf ho hD hlf hbr hI => ?_; clear hh1 hh0; subst hr0)
    | (refine ex2 hh0 fun H2 fs hh1 => ?_; refine an11 hh1 fun br o o2 hr0 hs2 hf ho hD hlf hbr hI => ?_; clear hh1 hh0; subst hr0)
    | (refine ex3 hh0 fun H2 fs br hh1 => ?_; refine an10 hh1 fun o o2 hr0 hs2 hf ho hD hlf hbr hI => ?_; clear hh1 hh0; subst hr0)
    | (refine ex4 hh0 fun H2 fs br o hh1 => ?_; refine an9 hh1 fun o2 hr0 hs2 hf ho hD hlf hbr hI => ?_; clear hh1 hh0; subst hr0)
    | obtain ⟨H2, fs, br, o, o2, rfl, hs2, hf, ho, hD, hlf, hbr, hI⟩ := hh0
  have hx' := dg_lt (b := 2 ^ w) (by (first | lia | omega)) x
  rw [Nat.mod_eq_of_lt hx', Nat.mod_eq_of_lt (Nat.lt_of_le_of_lt hyx hx')] at hI
  have hlt := num_lt hD
  rw [hlf] at hlt
  repeat' walk_at "vc"
  rename_i r H3 s3 n3 e3 o3
  rw [strip_eq (by (first | lia | omega)) hD, sub_done hI hlt hyx] at e3
  exact k.done (hs2.trans s3.sb) (hs2.none' n3) e3 o3
end
local macro_rules | `(tactic| walk_at "ct") => `(tactic| with_reducible refine' sub_ok (by assumption) (by walk_at "rd") (by walk_at "rd") ?_ ?_ ?_)
section
variable {W : World} {B : Heap} {D : Nat} {H : Hp} {Q : AV → Hp → Prop} {w : Nat}
theorem shift_left_ok {a : Addr} {x n : Nat} (hw : 2 ≤ w ∧ w ≤ 9) (ha : H.rd a = some (LN (dg (2 ^ w) x))) (hx : x < 2 ^ 200) (hn : n ≤ 1000) (k : RetL H (dg (2 ^ w) (x * 2 ^ n)) Q) : callP (gs W B) (D + 1) 112 [.ref a, .int (n : Int), .int (w : Int)] H Q := by
  obtain ⟨b1, b2⟩ := pw hw
  refine' callP_def0 (Wb := _) (hK := rfl) rfl rfl rfl rfl rfl [Str.ofString "a", Str.ofString "n", Str.ofString "w"] [Str.ofString "spots", Str.ofString "few", Str.ofString "found", Str.ofString "carry", Str.ofString "mask", Str.ofString "one"] (by decide) rfl rfl rfl ?hb ?hw [some (.ref a), some (.int (n : Int)), some (.int (w : Int)), none, none, none, none, none, none] rfl ?hv
  case hb => exact fun vs hv => vrs_all (P := fun vs => bindArgs _ ⟨vs, []⟩ = pure (List.zip _ vs)) hv (fun _ _ _ => rfl)
  case hw =>
    intro A L
    simp only [List.cons_append, List.nil_append]
    repeat' walk_at "tr"
  case' hv => skip
  have hl := dg_len_small (b := 2 ^ w) (by (first | lia | omega)) hx
  have hfew : n % w < w := Nat.mod_lt _ (by (first | lia | omega))
  have hp1 : 2 ^ (n % w) * 2 ≤ 2 ^ w := by rw [← Nat.pow_succ]; exact Nat.pow_le_pow_right (by decide) hfew
  have hp0 : 0 < 2 ^ (n % w) := Nat.pow_pos (by decide)
  have hsp : n / w ≤ n := Nat.div_le_self _ _
  repeat' walk_at "vc"
  · rename_i g q H1 s1 n1 e1 o1
    rw [dg_len_zero (by (first | lia | omega))] at g
    rw [g, Nat.zero_mul, dg_zero] at k
    exact k.done s1.sb n1 e1 o1
  rename_i g q0 H0 s0 n0 e0 o0 f H1 s1 n1 e1 o1
  have hx0 : 0 < x := Nat.pos_of_ne_zero fun z => g (by rw [z, dg_zero]; rfl)
  have s01 := s0.trans s1
  have n01 := s0.sb.none' n1
  have hsplit : (2 ^ w) ^ (n / w) * 2 ^ (n % w) = 2 ^ n := pow_split (by (first | lia | omega))
  refine vq_forL ((s0.trans s1).get ha) (fun j σ => ∃ H' fs cy o, σ = ⟨[some (.ref a), some (.int (n : Int)), some (.int (w : Int)), some (.int ((n / w : Nat) : Int)), some (.int ((n % w : Nat) : Int)), some (.ref f), some (.int ((cy : Nat) : Int)), some (.int ((1 * 2 ^ w - 1 : Nat) : Int)), o], H'⟩ ∧ Sb H H' ∧ H'.rd f = some (LN fs) ∧ H'.own f ∧ Dig (2 ^ w) fs ∧ fs.length = n / w + j ∧ cy < 2 ^ (n % w) ∧ num (2 ^ w) fs + (2 ^ w) ^ (n / w + j) * cy = x % (2 ^ w) ^ j * 2 ^ n)
    (fun H' e eo => ⟨H', _, 0, _, rfl, fun b bo z => by rw [e]; exact s01.sb b bo z, by rw [e]; exact e1, eo _ (fun z => by subst z; rw [ha] at n01; cases n01) o1, .rep (by (first | lia | omega)), by simp, hp0, by simp [num_rep, Nat.mod_one]⟩) ?_ ?_
  · intro j σ hj hh0
    first
      | (refine ex4 hh0 fun H' fs cy o hh1 => ?_; refine an8 hh1 fun hr0 hs' hf ho hD hlf hcy hI => ?_; clear hh1 hh0; subst hr0)
      | (refine an12 hh0 fun H' fs cy o hr0 hs' hf ho hD hlf hcy hI => ?_; clear hh0; subst hr0)
      | (refine ex1 hh0 fun H' hh1 => ?_; refine an11 hh1 fun fs cy o hr0 hs' hf ho hD hlf hcy hI => ?_; clear hh1 hh0; subst hr0)
      | (refine ex2 hh0 fun H' fs hh1 => ?_; refine an10 hh1 fun cy o hr0 hs' hf ho hD hlf hcy hI => ?_; clear hh1 hh0; subst hr0)
      | (refine ex3 hh0 fun H' fs cy hh1 => ?_; refine an9 hh1 fun o hr0 hs' hf ho hD hlf hcy hI => ?_; clear hh1 hh0; subst hr0)
      | obtain ⟨H', fs, cy, o, rfl, hs', hf, ho, hD, hlf, hcy, hI⟩ := hh0
    have g1 := dg_getD (b := 2 ^ w) (by (first | lia | omega)) x j
    have g3 := (Dig_dg (b := 2 ^ w) (by (first | lia | omega)) x).getD (by (first | lia | omega)) j
    have g4 : cy + (dg (2 ^ w) x).getD j 0 * 2 ^ (n % w) < 2 ^ w * 2 ^ (n % w) := by
      have := Nat.mul_le_mul_right (2 ^ (n % w)) (Nat.succ_le_of_lt g3)
      rw [Nat.succ_mul] at this
      (first | lia | omega)
    repeat' walk_at "vc"
    rename_i H2 s2 e2 o2
    first | refine exI4 _ _ _ _ ⟨rfl, s2, e2, o2, hD.snoc (Nat.mod_lt _ (by (first | lia | omega))), by simp [hlf]; (first | lia | omega), Nat.div_lt_of_lt_mul g4, ?_⟩ | refine ⟨_, _, _, _, rfl, s2, e2, o2, hD.snoc (Nat.mod_lt _ (by (first | lia | omega))), by simp [hlf]; (first | lia | omega), Nat.div_lt_of_lt_mul g4, ?_⟩
    rw [← Nat.add_assoc, carry_step hlf, mod_succ x, ← g1, Nat.mul_add, Nat.add_mul, ← hI, ← hsplit, Nat.pow_add]
    grind
  intro σ hh0
  first
    | (refine ex4 hh0 fun H2 fs cy o hh1 => ?_; refine an8 hh1 fun hr0 hs2 hf ho hD hlf hcy hI => ?_; clear hh1 hh0; subst hr0)
    | (refine an12 hh0 fun H2 fs cy o hr0 hs2 hf ho hD hlf hcy hI => ?_; clear hh0; subst hr0)
    | (refine ex1 hh0 fun H2 hh1 => ?_; refine an11 hh1 fun fs cy o hr0 hs2 hf ho hD hlf hcy hI => ?_; clear hh1 hh0; subst hr0)
    | (refine ex2 hh0 fun H2 fs hh1 => ?_; refine an10 hh1 fun cy o hr0 hs2 hf ho hD hlf hcy hI => ?_; clear hh1 hh0; subst hr0)
    | (refine ex3 hh0 fun H2 fs cy hh1 => ?_; refine an9 hh1 fun o hr0 hs2 hf ho hD hlf hcy hI => ?_; clear hh1 hh0; subst hr0)
    | obtain ⟨H2, fs, cy, o, rfl, hs2, hf, ho, hD, hlf, hcy, hI⟩ := hh0
  have hx' := dg_lt (b := 2 ^ w) (by (first | lia | omega)) x
  rw [Nat.mod_eq_of_lt hx'] at hI
  repeat' walk_at "vc"
  · rename_i g H3 s3 e3 o3
    rw [snoc_end (t := x * 2 ^ n) (by (first | lia | omega)) hD (by (first | lia | omega)) g (by rw [hlf]; exact hI)] at e3
    exact k.done s3 n01 e3 o3
  · rename_i g
    have hc0 : cy = 0 := by (first | lia | omega)
    rw [hc0, Nat.mul_zero, Nat.add_zero, ← hsplit] at hI
    rw [shl_end (by (first | lia | omega)) hx0 hD hlf hI, hsplit] at hf
    exact k.done hs2 n01 hf ho
end
local macro_rules | `(tactic| walk_at "ct") => `(tactic| with_reducible refine' shift_left_ok (by assumption) (by walk_at "rd") ?_ ?_ ?_)
section
variable {W : World} {B : Heap} {D : Nat} {H : Hp} {Q : AV → Hp → Prop} {w : Nat}
theorem shift_right_ok {a : Addr} {x n : Nat} (hw : 2 ≤ w ∧ w ≤ 9) (ha : H.rd a = some (LN (dg (2 ^ w) x))) (hx : x < 2 ^ 200) (hn : n ≤ 1000) (k : RetL H (dg (2 ^ w) (x / 2 ^ n)) Q) : callP (gs W B) (D + 2) 119 [.ref a, .int (n : Int), .int (w : Int)] H Q := by
  obtain ⟨b1, b2⟩ := pw hw
  refine' callP_def0 (Wb := _) (hK := rfl) rfl rfl rfl rfl rfl [Str.ofString "a", Str.ofString "n", Str.ofString "w"] [Str.ofString "spots", Str.ofString "few", Str.ofString "found", Str.ofString "mask", Str.ofString "at", Str.ofString "above"] (by decide) rfl rfl rfl ?hb ?hw [some (.ref a), some (.int (n : Int)), some (.int (w : Int)), none, none, none, none, none, none] rfl ?hv
  case hb => exact fun vs hv => vrs_all (P := fun vs => bindArgs _ ⟨vs, []⟩ = pure (List.zip _ vs)) hv (fun _ _ _ => rfl)
  case hw =>
    intro A L
    simp only [List.cons_append, List.nil_append]
    repeat' walk_at "tr"
  case' hv => skip
  have hl := dg_len_small (b := 2 ^ w) (by (first | lia | omega)) hx
  have hfew : n % w < w := Nat.mod_lt _ (by (first | lia | omega))
  have hsp : n / w ≤ n := Nat.div_le_self _ _
  repeat' walk_at "vc"
  rename_i f H₁ s1 n1 e1 o1
  refine vq_forU (fun j σ => ∃ H' fs o o2, σ = ⟨[some (.ref a), some (.int (n : Int)), some (.int (w : Int)), some (.int ((n / w : Nat) : Int)), some (.int ((n % w : Nat) : Int)), some (.ref f), some (.int ((1 * 2 ^ w - 1 : Nat) : Int)), o, o2], H'⟩ ∧ Sb H H' ∧ H'.rd f = some (LN fs) ∧ H'.own f ∧ Dig (2 ^ w) fs ∧ fs.length = j ∧ num (2 ^ w) fs = x / 2 ^ n % (2 ^ w) ^ j)
    ⟨_, [], _, _, rfl, s1.sb, e1, o1, .nil, rfl, by simp [num, Nat.mod_one]⟩ ?_ ?_
  · intro j σ hj hh0
    first
      | (refine ex4 hh0 fun H' fs o o2 hh1 => ?_; refine an7 hh1 fun hr0 hs' hf ho hD hlf hI => ?_; clear hh1 hh0; subst hr0)
      | (refine an11 hh0 fun H' fs o o2 hr0 hs' hf ho hD hlf hI => ?_; clear hh0; subst hr0)
      | (refine ex1 hh0 fun H' hh1 => ?_; refine an10 hh1 fun fs o o2 hr0 hs' hf ho hD hlf hI => ?_; clear hh1 hh0; subst hr0)
      | (refine ex2 hh0 fun H' fs hh1 => ?_; refine an9 hh1 fun o o2 hr0 hs' hf ho hD hlf hI => ?_; clear hh1 hh0; subst hr0)
      | (refine ex3 hh0 fun H' fs o hh1 => ?_; refine an8 hh1 fun o2 hr0 hs' hf ho hD hlf hI => ?_; clear hh1 hh0; subst hr0)
      | obtain ⟨H', fs, o, o2, rfl, hs', hf, ho, hD, hlf, hI⟩ := hh0
    have g1 := dg_getD (b := 2 ^ w) (by (first | lia | omega)) x (n / w + j)
    have g2 := dg_getD (b := 2 ^ w) (by (first | lia | omega)) x (n / w + j + 1)
    have g3 := (Dig_dg (b := 2 ^ w) (by (first | lia | omega)) x).getD (by (first | lia | omega)) (n / w + j)
    have g4 := (Dig_dg (b := 2 ^ w) (by (first | lia | omega)) x).getD (by (first | lia | omega)) (n / w + j + 1)
    have ha' := hs'.get ha
    have hlen : fs.length ≤ 200 := by rw [hlf]; exact Nat.le_trans (Nat.le_of_lt hj) (Nat.le_trans (Nat.sub_le _ _) hl)
    have g5 : (dg (2 ^ w) x).getD (n / w + j) 0 / 2 ^ (n % w) < 2 ^ (w - n % w) := by
      refine Nat.div_lt_of_lt_mul ?_
      rw [← Nat.pow_add, show n % w + (w - n % w) = w by (first | lia | omega)]; exact g3
    have key : (x / (2 ^ w) ^ (n / w + j) % 2 ^ w / 2 ^ (n % w) + x / (2 ^ w) ^ (n / w + j + 1) % 2 ^ w * 2 ^ (w - n % w)) % 2 ^ w = x / 2 ^ n / (2 ^ w) ^ j % 2 ^ w := by
      rw [Nat.pow_succ, ← Nat.div_div_eq_div_mul, shr_digit hfew, Nat.div_div_eq_div_mul, Nat.div_div_eq_div_mul, Nat.pow_add, ← pow_split (w := w) (n := n) (by (first | lia | omega))]
      congr 2; grind
    have g6 : (dg (2 ^ w) x).getD (n / w + j + 1) 0 * 2 ^ (w - n % w) < 2 ^ 200 := by
      have h1 : 2 ^ (w - n % w) ≤ 2 ^ w := Nat.pow_le_pow_right (by decide) (by (first | lia | omega))
      have := Nat.mul_le_mul (Nat.le_of_lt g4) h1
      have h2 : 2 ^ w * 2 ^ w ≤ 512 * 512 := Nat.mul_le_mul b2 b2
      (first | lia | omega)
    repeat' walk_at "vc"
    · rename_i g H2 s2 e2 o2
      first | refine exI4 _ _ _ _ ⟨rfl, s2, e2, o2, hD.snoc (Nat.mod_lt _ (by (first | lia | omega))), by simp [hlf], ?_⟩ | refine ⟨_, _, _, _, rfl, s2, e2, o2, hD.snoc (Nat.mod_lt _ (by (first | lia | omega))), by simp [hlf], ?_⟩
      rw [num_snoc, hlf, hI, mod_succ, g1, g2, key]
    · rename_i g H2 s2 e2 o2
      first | refine exI4 _ _ _ _ ⟨rfl, s2, e2, o2, hD.snoc (Nat.mod_lt _ (by (first | lia | omega))), by simp [hlf], ?_⟩ | refine ⟨_, _, _, _, rfl, s2, e2, o2, hD.snoc (Nat.mod_lt _ (by (first | lia | omega))), by simp [hlf], ?_⟩
      have z : x / (2 ^ w) ^ (n / w + j + 1) % 2 ^ w = 0 := by rw [← g2]; simp [Nat.not_lt.mp g]
      rw [z] at key
      rw [num_snoc, hlf, hI, mod_succ, g1, key]
  intro σ hh0
  first
    | (refine ex4 hh0 fun H2 fs o o2 hh1 => ?_; refine an7 hh1 fun hr0 hs2 hf ho hD hlf hI => ?_; clear hh1 hh0; subst hr0)
    | (refine an11 hh0 fun H2 fs o o2 hr0 hs2 hf ho hD hlf hI => ?_; clear hh0; subst hr0)
    | (refine ex1 hh0 fun H2 hh1 => ?_; refine an10 hh1 fun fs o o2 hr0 hs2 hf ho hD hlf hI => ?_; clear hh1 hh0; subst hr0)
    | (refine ex2 hh0 fun H2 fs hh1 => ?_; refine an9 hh1 fun o o2 hr0 hs2 hf ho hD hlf hI => ?_; clear hh1 hh0; subst hr0)
    | (refine ex3 hh0 fun H2 fs o hh1 => ?_; refine an8 hh1 fun o2 hr0 hs2 hf ho hD hlf hI => ?_; clear hh1 hh0; subst hr0)
    | obtain ⟨H2, fs, o, o2, rfl, hs2, hf, ho, hD, hlf, hI⟩ := hh0
  rw [shr_end hw.1] at hI
  have hlen : fs.length ≤ 200 := by rw [hlf]; exact Nat.le_trans (Nat.sub_le _ _) hl
  repeat' walk_at "vc"
  rename_i r H3 s3 n3 e3 o3
  rw [strip_eq (by (first | lia | omega)) hD, hI] at e3
  exact k.done (hs2.trans s3.sb) (hs2.none' n3) e3 o3
end
local macro_rules | `(tactic| walk_at "ct") => `(tactic| with_reducible refine' shift_right_ok (by assumption) (by walk_at "rd") ?_ ?_ ?_)
section
variable {W : World} {B : Heap} {D : Nat} {H : Hp} {Q : AV → Hp → Prop} {w : Nat}
theorem low_ok {a : Addr} {x n : Nat} (hw : 2 ≤ w ∧ w ≤ 9) (ha : H.rd a = some (LN (dg (2 ^ w) x))) (hx : x < 2 ^ 200) (hn : n ≤ 1000) (k : RetL H (dg (2 ^ w) (x % 2 ^ n)) Q) : callP (gs W B) (D + 2) 140 [.ref a, .int (n : Int), .int (w : Int)] H Q := by
  obtain ⟨b1, b2⟩ := pw hw
  refine' callP_def0 (Wb := _) (hK := rfl) rfl rfl rfl rfl rfl [Str.ofString "a", Str.ofString "n", Str.ofString "w"] [Str.ofString "spots", Str.ofString "few"] (by decide) rfl rfl rfl ?hb ?hw [some (.ref a), some (.int (n : Int)), some (.int (w : Int)), none, none] rfl ?hv
  case hb => exact fun vs hv => vrs_all (P := fun vs => bindArgs _ ⟨vs, []⟩ = pure (List.zip _ vs)) hv (fun _ _ _ => rfl)
  case hw =>
    intro A L
    simp only [List.cons_append, List.nil_append]
    repeat' walk_at "tr"
  case' hv => skip
  have hl := dg_len_small (b := 2 ^ w) (by (first | lia | omega)) hx
  have hfew : n % w < w := Nat.mod_lt _ (by (first | lia | omega))
  have hsp : n / w ≤ n := Nat.div_le_self _ _
  have hp0 : 0 < 2 ^ (n % w) := Nat.pow_pos (by decide)
  repeat' walk_at "vc"
  · rename_i g q H1 s1 n1 e1 o1
    rw [low_all hw.1 g] at k
    exact k.done s1.sb n1 e1 o1
  · simp; (first | lia | omega)
  · simp; (first | lia | omega)
  · rename_i g q H1 s1 n1 e1 o1 q2 H2 s2 n2 e2 o2 q3 H3 s3 n3 e3 o3 r H4 s4 n4 e4 o4
    have hd : (dg (2 ^ w) x).getD (n / w) 0 % 2 ^ (n % w) < 2 ^ w := Nat.lt_of_lt_of_le (Nat.mod_lt _ hp0) (Nat.pow_le_pow_right (by decide) (Nat.le_of_lt hfew))
    have hlen : ((dg (2 ^ w) x).take (n / w)).length = n / w := by simp; (first | lia | omega)
    rw [strip_eq (by (first | lia | omega)) (((Dig_dg (by (first | lia | omega)) x).take _).snoc hd), num_snoc, hlen, num_take (by (first | lia | omega)) (Dig_dg (by (first | lia | omega)) x), num_dg (by (first | lia | omega)), dg_getD (by (first | lia | omega)), low_part hw.1] at e4
    exact k.done (((s1.trans s2).trans s3).trans s4).sb (((s1.trans s2).trans s3).sb.none' n4) e4 o4
end
local macro_rules | `(tactic| walk_at "ct") => `(tactic| with_reducible refine' low_ok (by assumption) (by walk_at "rd") ?_ ?_ ?_)
section
variable {W : World} {B : Heap} {D : Nat} {H : Hp} {Q : AV → Hp → Prop} {w : Nat}
theorem trailing_ok {a : Addr} {x : Nat} (hw : 2 ≤ w ∧ w ≤ 9) (ha : H.rd a = some (LN (dg (2 ^ w) x))) (hx0 : 0 < x) (hx : x < 2 ^ 200) (k : RetV H (.int ((tz x : Nat) : Int)) Q) : callP (gs W B) (D + 1) 147 [.ref a, .int (w : Int)] H Q := by
  obtain ⟨b1, b2⟩ := pw hw
  refine' callP_def0 (Wb := _) (hK := rfl) rfl rfl rfl rfl rfl [Str.ofString "a", Str.ofString "w"] [Str.ofString "at", Str.ofString "limb"] (by decide) rfl rfl rfl ?hb ?hw [some (.ref a), some (.int (w : Int)), none, none] rfl ?hv
  case hb => exact fun vs hv => vrs_all (P := fun vs => bindArgs _ ⟨vs, []⟩ = pure (List.zip _ vs)) hv (fun _ _ => rfl)
  case hw =>
    intro A L
    simp only [List.cons_append, List.nil_append]
    repeat' walk_at "tr"
  case' hv => skip
  have hl := dg_len_small (b := 2 ^ w) (by (first | lia | omega)) hx
  repeat' walk_at "vc"
  refine vq_forE ha (fun j σ => ∃ H' o o2, σ = ⟨[some (.ref a), some (.int (w : Int)), o, o2], H'⟩ ∧ Sb H H' ∧ x % (2 ^ w) ^ j = 0) (fun H' e _ => ⟨H', _, _, rfl, fun a ao z => by rw [e]; exact z, by simp [Nat.mod_one]⟩) ?_ ?_
  · intro j σ hj hh0
    first
      | (refine ex3 hh0 fun H' o o2 hh1 => ?_; refine an3 hh1 fun hr0 hs' hI => ?_; clear hh1 hh0; subst hr0)
      | (refine an6 hh0 fun H' o o2 hr0 hs' hI => ?_; clear hh0; subst hr0)
      | (refine ex1 hh0 fun H' hh1 => ?_; refine an5 hh1 fun o o2 hr0 hs' hI => ?_; clear hh1 hh0; subst hr0)
      | (refine ex2 hh0 fun H' o hh1 => ?_; refine an4 hh1 fun o2 hr0 hs' hI => ?_; clear hh1 hh0; subst hr0)
      | obtain ⟨H', o, o2, rfl, hs', hI⟩ := hh0
    have g1 := dg_getD (b := 2 ^ w) (by (first | lia | omega)) x j
    have g3 := (Dig_dg (b := 2 ^ w) (by (first | lia | omega)) x).getD (by (first | lia | omega)) j
    repeat' walk_at "vc"
    · rename_i g
      rw [g1] at g ⊢
      have e := tz_digits (by (first | lia | omega)) hI
      have e2 : bl (2 ^ tz (x / (2 ^ w) ^ j % 2 ^ w)) = tz (x / (2 ^ w) ^ j % 2 ^ w) + 1 := (bl_iff (Nat.pow_pos (by decide)) _).mpr ⟨Nat.le_refl _, Nat.pow_lt_pow_right (by decide) (by (first | lia | omega))⟩
      have e3 : (((j * w + bl (2 ^ tz (x / (2 ^ w) ^ j % 2 ^ w)) : Nat) : Int) - ((1 : Nat) : Int)) = ((tz x : Nat) : Int) := by rw [e, e2]; (first | lia | omega)
      rw [e3]
      exact k.done hs'
    · rename_i g
      first | refine exI3 _ _ _ ⟨rfl, hs', ?_⟩ | refine ⟨_, _, _, rfl, hs', ?_⟩
      rw [mod_succ, hI, ← g1, show (dg (2 ^ w) x).getD j 0 = 0 by (first | lia | omega), Nat.mul_zero]
  intro σ hh0
  first
    | (refine ex3 hh0 fun H' o o2 hh1 => ?_; refine an3 hh1 fun hr0 hs' hI => ?_; clear hh1 hh0; subst hr0)
    | (refine an6 hh0 fun H' o o2 hr0 hs' hI => ?_; clear hh0; subst hr0)
    | (refine ex1 hh0 fun H' hh1 => ?_; refine an5 hh1 fun o o2 hr0 hs' hI => ?_; clear hh1 hh0; subst hr0)
    | (refine ex2 hh0 fun H' o hh1 => ?_; refine an4 hh1 fun o2 hr0 hs' hI => ?_; clear hh1 hh0; subst hr0)
    | obtain ⟨H', o, o2, rfl, hs', hI⟩ := hh0
  rw [Nat.mod_eq_of_lt (dg_lt (b := 2 ^ w) (by (first | lia | omega)) x)] at hI
  (first | lia | omega)
end
local macro_rules | `(tactic| walk_at "ct") => `(tactic| with_reducible refine' trailing_ok (by assumption) (by walk_at "rd") ?_ ?_ ?_)
section
variable {W : World} {B : Heap} {D : Nat} {H : Hp} {Q : AV → Hp → Prop} {w : Nat}
theorem inverse_limb_ok {d : Nat} (hw : 2 ≤ w ∧ w ≤ 9) (hd : d % 2 = 1) (hdw : d < 2 ^ w) (k : ∀ r H', H.Sub H' → r < 2 ^ w → d * r % 2 ^ w = 1 → Q (.int ((r : Nat) : Int)) H') : callP (gs W B) (D + 1) 154 [.int (d : Int), .int (w : Int)] H Q := by
  obtain ⟨b1, b2⟩ := pw hw
  refine' callP_def0 (Wb := _) (hK := rfl) rfl rfl rfl rfl rfl [Str.ofString "d", Str.ofString "w"] [Str.ofString "whole", Str.ofString "found", Str.ofString "sure"] (by decide) rfl rfl rfl ?hb ?hw [some (.int (d : Int)), some (.int (w : Int)), none, none, none] rfl ?hv
  case hb => exact fun vs hv => vrs_all (P := fun vs => bindArgs _ ⟨vs, []⟩ = pure (List.zip _ vs)) hv (fun _ _ => rfl)
  case hw =>
    intro A L
    simp only [List.cons_append, List.nil_append]
    repeat' walk_at "tr"
  case' hv => skip
  repeat' walk_at "vc"
  refine vq_while (fun n σ => ∃ f t, σ = ⟨[some (.int (d : Int)), some (.int (w : Int)), some (.int ((1 * 2 ^ w : Nat) : Int)), some (.int ((f : Nat) : Int)), some (.int ((t : Nat) : Int))], H⟩ ∧ n = w - t ∧ 3 ≤ t ∧ f < 2 ^ w ∧ (2 : Int) ^ (min t w) ∣ (d : Int) * f - 1) (w - 3) ⟨_, 3, rfl, rfl, by (first | lia | omega), by rw [Nat.one_mul]; exact Nat.mod_lt _ (by (first | lia | omega)), newton_start hd hdw⟩ ?_
  intro n σ hh0
  first
    | (refine ex2 hh0 fun f t hh1 => ?_; refine an5 hh1 fun hr0 hr1 ht hf hI => ?_; clear hh1 hh0; subst hr0; subst hr1)
    | (refine an7 hh0 fun f t hr0 hr1 ht hf hI => ?_; clear hh0; subst hr0; subst hr1)
    | (refine ex1 hh0 fun f hh1 => ?_; refine an6 hh1 fun t hr0 hr1 ht hf hI => ?_; clear hh1 hh0; subst hr0; subst hr1)
    | obtain ⟨f, t, rfl, rfl, ht, hf, hI⟩ := hh0
  have hm1 : d * f < 2 ^ 200 := by
    have := Nat.mul_le_mul (Nat.le_of_lt hdw) (Nat.le_of_lt hf)
    have h2 : 2 ^ w * 2 ^ w ≤ 512 * 512 := Nat.mul_le_mul b2 b2
    (first | lia | omega)
  have hm2 : ∀ z : Int, (z % ((1 * 2 ^ w : Nat) : Int)).toNat < 2 ^ 200 := fun z => by
    have h1 : (0 : Int) < ((1 * 2 ^ w : Nat) : Int) := by (first | lia | omega)
    have := Int.emod_lt_of_pos z h1
    (first | lia | omega)
  have hm3 := hm2 (((2 : Nat) : Int) - ((d * f : Nat) : Int))
  repeat' walk_at "vc"
  · rename_i g
    refine vq_loop (w - 2 * t) (by (first | lia | omega)) ⟨_, 2 * t, rfl, rfl, by (first | lia | omega), ?_, ?_⟩
    · rw [Nat.one_mul]; exact Nat.mod_lt _ (by (first | lia | omega))
    · have := newton_step (w := w) hI
      rw [show min (2 * min t w) w = min (2 * t) w by (first | lia | omega)] at this
      exact this
  · rename_i g
    rw [show min t w = w by (first | lia | omega)] at hI
    exact k _ _ (Hp.back_sub .refl) hf (newton_end (by (first | lia | omega)) hI)
end
section
variable {W : World} {B : Heap} {D : Nat} {H : Hp} {Q : AV → Hp → Prop} {w : Nat}
theorem law_row_ok {x : Nat} (hw : 2 ≤ w ∧ w ≤ 9) (hx : x < 2 ^ 200) (k : RetL H (dg (2 ^ w) x) Q) : callP (gs W B) (D + 1) 360 [.int (x : Int), .int (w : Int)] H Q := by
  obtain ⟨b1, b2⟩ := pw hw
  refine' callP_def0 (Wb := _) (hK := rfl) rfl rfl rfl rfl rfl [Str.ofString "number", Str.ofString "w"] [Str.ofString "found"] (by decide) rfl rfl rfl ?hb ?hw [some (.int (x : Int)), some (.int (w : Int)), none] rfl ?hv
  case hb => exact fun vs hv => vrs_all (P := fun vs => bindArgs _ ⟨vs, []⟩ = pure (List.zip _ vs)) hv (fun _ _ => rfl)
  case hw =>
    intro A L
    simp only [List.cons_append, List.nil_append]
    repeat' walk_at "tr"
  case' hv => skip
  repeat' walk_at "vc"
  rename_i f H1 s1 n1 e1 o1
  refine vq_while (fun m σ => ∃ H' fs, σ = ⟨[some (.int ((m : Nat) : Int)), some (.int (w : Int)), some (.ref f)], H'⟩ ∧ Sb H H' ∧ H'.rd f = some (LN fs) ∧ H'.own f ∧ m ≤ x ∧ fs ++ dg (2 ^ w) m = dg (2 ^ w) x) x ⟨_, [], rfl, s1.sb, e1, o1, Nat.le_refl _, rfl⟩ ?_
  intro m σ hh0
  first
    | (refine ex2 hh0 fun H' fs hh1 => ?_; refine an6 hh1 fun hr0 hs' hf ho hm hI => ?_; clear hh1 hh0; subst hr0)
    | (refine an8 hh0 fun H' fs hr0 hs' hf ho hm hI => ?_; clear hh0; subst hr0)
    | (refine ex1 hh0 fun H' hh1 => ?_; refine an7 hh1 fun fs hr0 hs' hf ho hm hI => ?_; clear hh1 hh0; subst hr0)
    | obtain ⟨H', fs, rfl, hs', hf, ho, hm, hI⟩ := hh0
  have hl := dg_len_small (b := 2 ^ w) (by (first | lia | omega)) hx
  have hlf : fs.length ≤ 200 := by rw [← hI, List.length_append] at hl; (first | lia | omega)
  repeat' walk_at "vc"
  · rename_i g H2 s2 e2 o2
    refine vq_loop (m / 2 ^ w) (Nat.div_lt_self g (by (first | lia | omega))) ⟨_, _, rfl, s2, e2, o2, Nat.le_trans (Nat.div_le_self _ _) hm, ?_⟩
    rw [← hI, dg_pos (x := m) (by (first | lia | omega)) g]; simp
  · rename_i g
    have : m = 0 := by (first | lia | omega)
    rw [this, dg_zero, List.append_nil] at hI
    rw [hI] at hf
    exact k.done hs' n1 hf ho
local macro_rules | `(tactic| walk_at "ct") => `(tactic| with_reducible refine' law_row_ok (by assumption) ?_ ?_)
theorem law_number_ok {a : Addr} {x : Nat} (hw : 2 ≤ w ∧ w ≤ 9) (ha : H.rd a = some (LN (dg (2 ^ w) x))) (hx : x < 2 ^ 200) (k : RetV H (.int ((x : Nat) : Int)) Q) : callP (gs W B) (D + 1) 367 [.ref a, .int (w : Int)] H Q := by
  obtain ⟨b1, b2⟩ := pw hw
  refine' callP_def0 (Wb := _) (hK := rfl) rfl rfl rfl rfl rfl [Str.ofString "row", Str.ofString "w"] [Str.ofString "found", Str.ofString "limb"] (by decide) rfl rfl rfl ?hb ?hw [some (.ref a), some (.int (w : Int)), none, none] rfl ?hv
  case hb => exact fun vs hv => vrs_all (P := fun vs => bindArgs _ ⟨vs, []⟩ = pure (List.zip _ vs)) hv (fun _ _ => rfl)
  case hw =>
    intro A L
    simp only [List.cons_append, List.nil_append]
    repeat' walk_at "tr"
  case' hv => skip
  have hl := dg_len_small (b := 2 ^ w) (by (first | lia | omega)) hx
  repeat' walk_at "vc"
  have hx' := dg_lt (b := 2 ^ w) (by (first | lia | omega)) x
  generalize hn : (dg (2 ^ w) x).length = n at *
  refine vq_forR ha (fun j σ => ∃ H' o, σ = ⟨[some (.ref a), some (.int (w : Int)), some (.int ((x / (2 ^ w) ^ (n - j) : Nat) : Int)), o], H'⟩ ∧ Sb H H') (fun H' e _ => ⟨H', none, by rw [Nat.sub_zero, Nat.div_eq_of_lt hx'], fun b bo z => by rw [e]; exact z⟩) ?_ ?_
  · intro j σ hj hh0
    first
      | (refine ex2 hh0 fun H' o hh1 => ?_; refine an2 hh1 fun hr0 hs' => ?_; clear hh1 hh0; subst hr0)
      | (refine an4 hh0 fun H' o hr0 hs' => ?_; clear hh0; subst hr0)
      | (refine ex1 hh0 fun H' hh1 => ?_; refine an3 hh1 fun o hr0 hs' => ?_; clear hh1 hh0; subst hr0)
      | obtain ⟨H', o, rfl, hs'⟩ := hh0
    rw [hn] at hj ⊢
    have e2 : n - j = (n - (j + 1)) + 1 := by (first | lia | omega)
    have e3 : n - 1 - j = n - (j + 1) := by (first | lia | omega)
    rw [e2, e3]
    have g1 := dg_getD (b := 2 ^ w) (by (first | lia | omega)) x (n - (j + 1))
    have g2 : x / (2 ^ w) ^ (n - (j + 1) + 1) ≤ x := Nat.div_le_self _ _
    repeat' walk_at "vc"
    have e5 : x / (2 ^ w) ^ (n - (j + 1) + 1) * 2 ^ w + (dg (2 ^ w) x).getD (n - (j + 1)) 0 = x / (2 ^ w) ^ (n - (j + 1)) := by rw [g1, Nat.mul_comm, ← div_step]
    rw [e5]
    first | exact exI2 _ _ ⟨rfl, hs'⟩ | exact ⟨_, _, rfl, hs'⟩
  · intro σ hh0
    first
      | (refine ex2 hh0 fun H' o hh1 => ?_; refine an2 hh1 fun hr0 hs' => ?_; clear hh1 hh0; subst hr0)
      | (refine an4 hh0 fun H' o hr0 hs' => ?_; clear hh0; subst hr0)
      | (refine ex1 hh0 fun H' hh1 => ?_; refine an3 hh1 fun o hr0 hs' => ?_; clear hh1 hh0; subst hr0)
      | obtain ⟨H', o, rfl, hs'⟩ := hh0
    rw [hn, Nat.sub_self, Nat.pow_zero, Nat.div_one]
    repeat' walk_at "vc"
    exact k.done hs'
local macro_rules | `(tactic| walk_at "ct") => `(tactic| with_reducible refine' law_number_ok (by assumption) (by walk_at "rd") ?_ ?_)
theorem law_mul_ok {a c : Addr} {x y : Nat} (hw : 2 ≤ w ∧ w ≤ 9) (ha : H.rd a = some (LN (dg (2 ^ w) x))) (hc : H.rd c = some (LN (dg (2 ^ w) y))) (hx : x < 2 ^ 100) (hy : y < 2 ^ 100) (k : RetL H (dg (2 ^ w) (x * y)) Q) : callP (gs W B) (D + 2) 374 [.ref a, .ref c, .int (w : Int)] H Q := by
  refine' callP_def0 (Wb := _) (hK := rfl) rfl rfl rfl rfl rfl [Str.ofString "a", Str.ofString "b", Str.ofString "w"] [] (by decide) rfl rfl rfl ?hb ?hw [some (.ref a), some (.ref c), some (.int (w : Int))] rfl ?hv
  case hb => exact fun vs hv => vrs_all (P := fun vs => bindArgs _ ⟨vs, []⟩ = pure (List.zip _ vs)) hv (fun _ _ _ => rfl)
  case hw =>
    intro A L
    simp only [List.cons_append, List.nil_append]
    repeat' walk_at "tr"
  case' hv => skip
  have hxy : x * y < 2 ^ 200 := by
    have := Nat.mul_lt_mul'' hx hy
    rwa [← Nat.pow_add] at this
  repeat' walk_at "vc"
  rename_i H0 s0 H1 s1 r H2 s2 n2 e2 o2
  exact k.done ((s0.trans s1).trans s2).sb ((s0.trans s1).sb.none' n2) e2 o2
local macro_rules | `(tactic| walk_at "ct") => `(tactic| with_reducible refine' law_mul_ok (by assumption) (by walk_at "rd") (by walk_at "rd") ?_ ?_ ?_)
theorem law_divrem_ok {a c : Addr} {x y : Nat} (hw : 2 ≤ w ∧ w ≤ 9) (ha : H.rd a = some (LN (dg (2 ^ w) x))) (hc : H.rd c = some (LN (dg (2 ^ w) y))) (hx : x < 2 ^ 200) (hy0 : 0 < y) (hy : y < 2 ^ 200) (k : RetP H (dg (2 ^ w) (x / y)) (dg (2 ^ w) (x % y)) Q) : callP (gs W B) (D + 2) 381 [.ref a, .ref c, .int (w : Int)] H Q := by
  refine' callP_def0 (Wb := _) (hK := rfl) rfl rfl rfl rfl rfl [Str.ofString "a", Str.ofString "b", Str.ofString "w"] [Str.ofString "x", Str.ofString "y"] (by decide) rfl rfl rfl ?hb ?hw [some (.ref a), some (.ref c), some (.int (w : Int)), none, none] rfl ?hv
  case hb => exact fun vs hv => vrs_all (P := fun vs => bindArgs _ ⟨vs, []⟩ = pure (List.zip _ vs)) hv (fun _ _ _ => rfl)
  case hw =>
    intro A L
    simp only [List.cons_append, List.nil_append]
    repeat' walk_at "tr"
  case' hv => skip
  have h1 : x / y ≤ x := Nat.div_le_self _ _
  have h2 : x % y ≤ x := Nat.mod_le _ _
  repeat' walk_at "vc"
  rename_i H0 s0 H1 s1 p H2 s2 n2 e2 o2 q H3 s3 n3 e3 o3 t H4 s4 n4 e4 o4
  exact k.done ((((s0.trans s1).trans s2).trans s3).trans s4).sb e4 ((s3.trans s4).get e2) (s4.get e3)
local macro_rules | `(tactic| walk_at "ct") => `(tactic| with_reducible refine' law_divrem_ok (by assumption) (by walk_at "rd") (by walk_at "rd") ?_ ?_ ?_ ?_)
theorem check_modulus_ok {a : Addr} {x : Nat} (hw : 2 ≤ w ∧ w ≤ 9) (ha : H.rd a = some (LN (dg (2 ^ w) x))) (hx0 : 0 < x) (k : RetV H .none Q) : callP (gs W B) (D + 1) 278 [.ref a] H Q := by
  obtain ⟨b1, b2⟩ := pw hw
  refine' callP_def0 (Wb := _) (hK := rfl) rfl rfl rfl rfl rfl [Str.ofString "m"] [] (by decide) rfl rfl rfl ?hb ?hw [some (.ref a)] rfl ?hv
  case hb => exact fun vs hv => vrs_all (P := fun vs => bindArgs _ ⟨vs, []⟩ = pure (List.zip _ vs)) hv (fun _ => rfl)
  case hw =>
    intro A L
    simp only [List.cons_append, List.nil_append]
    repeat' walk_at "tr"
  case' hv => skip
  have hne := dg_ne (b := 2 ^ w) (by (first | lia | omega)) hx0
  repeat' walk_at "vc"
  · rename_i g
    exact absurd g hne
  · rename_i q H1 s1 n1 e1 o1 _
    exact k.done s1.sb
local macro_rules | `(tactic| walk_at "ct") => `(tactic| with_reducible refine' check_modulus_ok (by assumption) (by walk_at "rd") ?_ ?_)
theorem dg_one {b : Nat} (hb : 2 ≤ b) : dg b 1 = [1] := by rw [dg_pos hb (by decide), Nat.mod_eq_of_lt (by (first | lia | omega)), Nat.div_eq_of_lt (by (first | lia | omega)), dg_zero]
theorem dg_is_one {b x : Nat} (hb : 2 ≤ b) : dg b x = [1] ↔ x = 1 := by rw [← dg_one hb, dg_inj hb]
theorem unit_rest_ok {a : Addr} {x : Nat} (hw : 2 ≤ w ∧ w ≤ 9) (ha : H.rd a = some (LN (dg (2 ^ w) x))) (hx0 : 0 < x) (k : RetL H (dg (2 ^ w) (1 % x)) Q) : callP (gs W B) (D + 1) 285 [.ref a] H Q := by
  obtain ⟨b1, b2⟩ := pw hw
  refine' callP_def0 (Wb := _) (hK := rfl) rfl rfl rfl rfl rfl [Str.ofString "m"] [] (by decide) rfl rfl rfl ?hb ?hw [some (.ref a)] rfl ?hv
  case hb => exact fun vs hv => vrs_all (P := fun vs => bindArgs _ ⟨vs, []⟩ = pure (List.zip _ vs)) hv (fun _ => rfl)
  case hw =>
    intro A L
    simp only [List.cons_append, List.nil_append]
    repeat' walk_at "tr"
  case' hv => skip
  repeat' walk_at "vc"
  · rename_i q H1 s1 n1 e1 o1 g q2 H2 s2 n2 e2 o2
    rw [dg_is_one (by (first | lia | omega))] at g
    rw [g, Nat.mod_self, dg_zero] at k
    exact k.done (s1.trans s2).sb (s1.sb.none' n2) e2 o2
  · rename_i q H1 s1 n1 e1 o1 g q2 H2 s2 n2 e2 o2
    rw [dg_is_one (by (first | lia | omega))] at g
    rw [Nat.mod_eq_of_lt (by (first | lia | omega)), dg_one (by (first | lia | omega))] at k
    exact k.done (s1.trans s2).sb (s1.sb.none' n2) e2 o2
local macro_rules | `(tactic| walk_at "ct") => `(tactic| with_reducible refine' unit_rest_ok (by assumption) (by walk_at "rd") ?_ ?_)
theorem law_together_int_ok {x y : Int} (k : RetV H (.int (x + y)) Q) : callP (gs W B) (D + 1) 421 [.int x, .int y] H Q := by
  refine' callP_def0 (Wb := _) (hK := rfl) rfl rfl rfl rfl rfl [Str.ofString "x", Str.ofString "y"] [] (by decide) rfl rfl rfl ?hb ?hw [some (.int x), some (.int y)] rfl ?hv
  case hb => exact fun vs hv => vrs_all (P := fun vs => bindArgs _ ⟨vs, []⟩ = pure (List.zip _ vs)) hv (fun _ _ => rfl)
  case hw =>
    intro A L
    simp only [List.cons_append, List.nil_append]
    repeat' walk_at "tr"
  case' hv => skip
  repeat' walk_at "vc"
  exact k.done .refl
theorem law_together_str_ok {x y : Str} (h : x.length + y.length ≤ 1000000) (k : RetV H (.str (x ++ y)) Q) : callP (gs W B) (D + 1) 421 [.str x, .str y] H Q := by
  refine' callP_def0 (Wb := _) (hK := rfl) rfl rfl rfl rfl rfl [Str.ofString "x", Str.ofString "y"] [] (by decide) rfl rfl rfl ?hb ?hw [some (.str x), some (.str y)] rfl ?hv
  case hb => exact fun vs hv => vrs_all (P := fun vs => bindArgs _ ⟨vs, []⟩ = pure (List.zip _ vs)) hv (fun _ _ => rfl)
  case hw =>
    intro A L
    simp only [List.cons_append, List.nil_append]
    repeat' walk_at "tr"
  case' hv => skip
  repeat' walk_at "vc"
  exact ⟨rfl, h, k.done .refl⟩
end
local macro_rules | `(tactic| walk_at "ct") => `(tactic| with_reducible refine' law_row_ok (by assumption) ?_ ?_)
local macro_rules | `(tactic| walk_at "ct") => `(tactic| with_reducible refine' law_number_ok (by assumption) (by walk_at "rd") ?_ ?_)
local macro_rules | `(tactic| walk_at "ct") => `(tactic| with_reducible refine' law_mul_ok (by assumption) (by walk_at "rd") (by walk_at "rd") ?_ ?_ ?_)
local macro_rules | `(tactic| walk_at "ct") => `(tactic| with_reducible refine' law_divrem_ok (by assumption) (by walk_at "rd") (by walk_at "rd") ?_ ?_ ?_ ?_)
local macro_rules | `(tactic| walk_at "ct") => `(tactic| with_reducible refine' check_modulus_ok (by assumption) (by walk_at "rd") ?_ ?_)
local macro_rules | `(tactic| walk_at "ct") => `(tactic| with_reducible refine' unit_rest_ok (by assumption) (by walk_at "rd") ?_ ?_)
section
variable {W : World} {B : Heap} {D : Nat} {H : Hp} {Q : AV → Hp → Prop} {w : Nat}
theorem law_power_ok {x e m : Nat} (hm0 : 0 < m) (hm : m < 2 ^ 100) (hx : x < 2 ^ 200) (he : e < 2 ^ 100) (k : RetV H (.int ((x ^ e % m : Nat) : Int)) Q) : callP (gs W B) (D + 1) 407 [.int (x : Int), .int (e : Int), .int (m : Int)] H Q := by
  refine' callP_def0 (Wb := _) (hK := rfl) rfl rfl rfl rfl rfl [Str.ofString "x", Str.ofString "e", Str.ofString "m"] [Str.ofString "found", Str.ofString "square"] (by decide) rfl rfl rfl ?hb ?hw [some (.int (x : Int)), some (.int (e : Int)), some (.int (m : Int)), none, none] rfl ?hv
  case hb => exact fun vs hv => vrs_all (P := fun vs => bindArgs _ ⟨vs, []⟩ = pure (List.zip _ vs)) hv (fun _ _ _ => rfl)
  case hw =>
    intro A L
    simp only [List.cons_append, List.nil_append]
    repeat' walk_at "tr"
  case' hv => skip
  repeat' walk_at "vc"
  refine vq_while (fun n σ => ∃ f s, σ = ⟨[some (.int (x : Int)), some (.int ((n : Nat) : Int)), some (.int (m : Int)), some (.int ((f : Nat) : Int)), some (.int ((s : Nat) : Int))], H⟩ ∧ n ≤ e ∧ f < m ∧ s < m ∧ f * s ^ n % m = x ^ e % m) e ⟨_, _, rfl, Nat.le_refl _, Nat.mod_lt _ hm0, Nat.mod_lt _ hm0, ?_⟩ ?_
  · rw [Nat.mul_mod, ← Nat.pow_mod, Nat.mod_mod, ← Nat.mul_mod, Nat.one_mul]
  intro n σ hh0
  first
    | (refine ex2 hh0 fun f s hh1 => ?_; refine an5 hh1 fun hr0 hn hf hs hI => ?_; clear hh1 hh0; subst hr0)
    | (refine an7 hh0 fun f s hr0 hn hf hs hI => ?_; clear hh0; subst hr0)
    | (refine ex1 hh0 fun f hh1 => ?_; refine an6 hh1 fun s hr0 hn hf hs hI => ?_; clear hh1 hh0; subst hr0)
    | obtain ⟨f, s, rfl, hn, hf, hs, hI⟩ := hh0
  have h1 : f * s < 2 ^ 200 := by
    have := Nat.mul_lt_mul'' (Nat.lt_trans hf hm) (Nat.lt_trans hs hm)
    rwa [← Nat.pow_add] at this
  have h2 : s * s < 2 ^ 200 := by
    have := Nat.mul_lt_mul'' (Nat.lt_trans hs hm) (Nat.lt_trans hs hm)
    rwa [← Nat.pow_add] at this
  have hs2 : (s * s % m) ^ (n / 2) % m = s ^ (2 * (n / 2)) % m := by
    rw [← Nat.pow_mod, Nat.pow_mul, Nat.pow_two]
  repeat' walk_at "vc"
  · rename_i g1 g2
    refine vq_loop (n / 2) (by (first | lia | omega)) ⟨_, _, rfl, by (first | lia | omega), Nat.mod_lt _ hm0, Nat.mod_lt _ hm0, ?_⟩
    rw [← hI, Nat.mul_mod, Nat.mod_mod, hs2, ← Nat.mul_mod, Nat.mul_assoc, ← Nat.pow_succ']
    congr 3; (first | lia | omega)
  · rename_i g1 g2
    refine vq_loop (n / 2) (by (first | lia | omega)) ⟨_, _, rfl, by (first | lia | omega), hf, Nat.mod_lt _ hm0, ?_⟩
    rw [← hI, Nat.mul_mod, hs2, ← Nat.mul_mod]
    congr 3; (first | lia | omega)
  · rename_i g
    have : n = 0 := by (first | lia | omega)
    subst this
    rw [Nat.pow_zero, Nat.mul_one, Nat.mod_eq_of_lt hf] at hI
    rw [hI]
    exact k.done .refl
end
local macro_rules | `(tactic| walk_at "ct") => `(tactic| with_reducible refine' law_power_ok ?_ ?_ ?_ ?_ ?_)
section
variable {W : World} {B : Heap} {D : Nat} {H : Hp} {Q : AV → Hp → Prop} {w : Nat}
noncomputable def wsT (s : Nat) : Nat := s * (s + 1) * 2 ^ (2 * s - 1)
structure IsWs (many r : Nat) : Prop where
  lo : 1 ≤ r
  hi : r ≤ 8
  below : ∀ s, 1 ≤ s → s < r → wsT s < many
  stop : r < 8 → many ≤ wsT r
theorem IsWs.mono {m m' r r' : Nat} (h : IsWs m r) (h' : IsWs m' r') (hm : m ≤ m') : r ≤ r' := by
  rcases Nat.lt_or_ge r' r with z | z
  · have h1 := h.below r' h'.lo z
    have h2 := h'.stop (by have := h.hi; (first | lia | omega))
    (first | lia | omega)
  · exact z
theorem window_size_ok {many : Nat} (hm : many < 2 ^ 100) (k : ∀ r H', H.Sub H' → IsWs many r → Q (.int ((r : Nat) : Int)) H') : callP (gs W B) (D + 1) 341 [.int (many : Int)] H Q := by
  refine' callP_def0 (Wb := _) (hK := rfl) rfl rfl rfl rfl rfl [Str.ofString "many"] [Str.ofString "size"] (by decide) rfl rfl rfl ?hb ?hw [some (.int (many : Int)), none] rfl ?hv
  case hb => exact fun vs hv => vrs_all (P := fun vs => bindArgs _ ⟨vs, []⟩ = pure (List.zip _ vs)) hv (fun _ => rfl)
  case hw =>
    intro A L
    simp only [List.cons_append, List.nil_append]
    repeat' walk_at "tr"
  case' hv => skip
  repeat' walk_at "vc"
  refine vq_while (fun n σ => ∃ s, n = 8 - s ∧ σ = ⟨[some (.int (many : Int)), some (.int ((s : Nat) : Int))], H⟩ ∧ 1 ≤ s ∧ s ≤ 8 ∧ ∀ t, 1 ≤ t → t < s → wsT t < many) 7 ⟨1, rfl, rfl, by (first | lia | omega), by (first | lia | omega), fun t h1 h2 => by (first | lia | omega)⟩ ?_
  intro n σ hh0
  first
    | (refine ex1 hh0 fun s hh1 => ?_; refine an5 hh1 fun hr0 hr1 h1 h2 h3 => ?_; clear hh1 hh0; subst hr0; subst hr1)
    | (refine an6 hh0 fun s hr0 hr1 h1 h2 h3 => ?_; clear hh0; subst hr0; subst hr1)
    | obtain ⟨s, rfl, rfl, h1, h2, h3⟩ := hh0
  have hb : s * (s + 1) ≤ 8 * 9 := Nat.mul_le_mul h2 (by (first | lia | omega))
  repeat' walk_at "vc"
  · rename_i g1 g2
    refine vq_loop (8 - (s + 1)) (by (first | lia | omega)) ⟨s + 1, rfl, rfl, by (first | lia | omega), by (first | lia | omega), fun t h4 h5 => ?_⟩
    by_cases e : t = s
    · rw [e]; exact g2
    · exact h3 t h4 (by (first | lia | omega))
  · rename_i g1 g2
    exact k _ _ (Hp.back_sub .refl) ⟨h1, h2, h3, fun _ => Nat.not_lt.mp g2⟩
  · rename_i g1
    exact k _ _ (Hp.back_sub .refl) ⟨h1, h2, h3, fun z => absurd z g1⟩
local macro_rules | `(tactic| walk_at "ct") => `(tactic| with_reducible refine' window_size_ok ?_ ?_)
structure IsWin (E top size v m : Nat) : Prop where
  m0 : 1 ≤ m
  mt : m ≤ top + 1
  ms : m ≤ size
  odd : v % 2 = 1
  val : v = E / 2 ^ (top + 1 - m) % 2 ^ m
theorem window_at_ok {a : Addr} {E top size : Nat} (hw : 2 ≤ w ∧ w ≤ 9) (ha : H.rd a = some (LN (dg (2 ^ w) E))) (hE : E < 2 ^ 100) (ht : top < 2 ^ 30) (hs : 1 ≤ size ∧ size ≤ 100) (htop : E / 2 ^ top % 2 = 1)
    (k : ∀ t v m H', H.Sub H' → H'.rd t = some (.tup [.int ((v : Nat) : Int), .int ((m : Nat) : Int)]) → IsWin E top size v m → Q (.ref t) H') : callP (gs W B) (D + 2) 264 [.ref a, .int (top : Int), .int (size : Int), .int (w : Int)] H Q := by
  refine' callP_def0 (Wb := _) (hK := rfl) rfl rfl rfl rfl rfl [Str.ofString "e", Str.ofString "top", Str.ofString "size", Str.ofString "w"] [Str.ofString "last", Str.ofString "value", Str.ofString "spot"] (by decide) rfl rfl rfl ?hb ?hw [some (.ref a), some (.int (top : Int)), some (.int (size : Int)), some (.int (w : Int)), none, none, none] rfl ?hv
  case hb => exact fun vs hv => vrs_all (P := fun vs => bindArgs _ ⟨vs, []⟩ = pure (List.zip _ vs)) hv (fun _ _ _ _ => rfl)
  case hw =>
    intro A L
    simp only [List.cons_append, List.nil_append]
    repeat' walk_at "tr"
  case' hv => skip
  repeat' walk_at "vc"
  refine vq_while (fun n σ => ∃ H' last, n = top - last ∧ σ = ⟨[some (.ref a), some (.int (top : Int)), some (.int (size : Int)), some (.int (w : Int)), some (.int ((last : Nat) : Int)), none, none], H'⟩ ∧ Sb H H' ∧ last ≤ top ∧ top + 1 ≤ last + size) _ ⟨H, _, rfl, rfl, .refl, by (first | lia | omega), by (first | lia | omega)⟩ ?_
  intro n σ hh0
  first
    | (refine ex2 hh0 fun H' last hh1 => ?_; refine an5 hh1 fun hr0 hr1 hs' h1 h2 => ?_; clear hh1 hh0; subst hr0; subst hr1)
    | (refine an7 hh0 fun H' last hr0 hr1 hs' h1 h2 => ?_; clear hh0; subst hr0; subst hr1)
    | (refine ex1 hh0 fun H' hh1 => ?_; refine an6 hh1 fun last hr0 hr1 hs' h1 h2 => ?_; clear hh1 hh0; subst hr0; subst hr1)
    | obtain ⟨H', last, rfl, rfl, hs', h1, h2⟩ := hh0
  have ha' := hs'.get ha
  repeat' walk_at "vc"
  · rename_i H1 s1 g
    have : last ≠ top := fun z => by rw [z, htop] at g; cases g
    exact vq_loop (top - (last + 1)) (by (first | lia | omega)) ⟨_, last + 1, rfl, rfl, hs'.trans s1.sb, by (first | lia | omega), by (first | lia | omega)⟩
  · rename_i H1 s1 g
    have hodd : E / 2 ^ last % 2 = 1 := by (first | lia | omega)
    refine vq_rangeD last (top + 1 - last) (by (first | lia | omega)) (by (first | lia | omega)) (by (first | lia | omega)) (vq_forD (fun j σ => ∃ H' o, σ = ⟨[some (.ref a), some (.int (top : Int)), some (.int (size : Int)), some (.int (w : Int)), some (.int ((last : Nat) : Int)), some (.int ((E / 2 ^ (top + 1 - j) % 2 ^ j : Nat) : Int)), o], H'⟩ ∧ Sb H H') ⟨H1, none, by rw [Nat.pow_zero, Nat.mod_one], hs'.trans s1.sb⟩ ?_ ?_)
    · intro j σ hj hh0
      first
        | (refine ex2 hh0 fun H2 o hh1 => ?_; refine an2 hh1 fun hr0 hs2 => ?_; clear hh1 hh0; subst hr0)
        | (refine an4 hh0 fun H2 o hr0 hs2 => ?_; clear hh0; subst hr0)
        | (refine ex1 hh0 fun H2 hh1 => ?_; refine an3 hh1 fun o hr0 hs2 => ?_; clear hh1 hh0; subst hr0)
        | obtain ⟨H2, o, rfl, hs2⟩ := hh0
      rw [show last + (top + 1 - last) - 1 - j = top - j by (first | lia | omega)]
      have ha2 := hs2.get ha
      have hlt : E / 2 ^ (top + 1 - j) % 2 ^ j < 2 ^ 200 := Nat.lt_of_le_of_lt (Nat.le_trans (Nat.mod_le _ _) (Nat.div_le_self _ _)) (by (first | lia | omega))
      repeat' walk_at "vc"
      rename_i H3 s3
      have e1 : 2 * (E / 2 ^ (top + 1 - j) % 2 ^ j) + E / 2 ^ (top - j) % 2 = E / 2 ^ (top + 1 - (j + 1)) % 2 ^ (j + 1) := by
        rw [show top + 1 - (j + 1) = top - j by (first | lia | omega), show top + 1 - j = (top - j) + 1 by (first | lia | omega), Nat.pow_succ, ← Nat.div_div_eq_div_mul, Nat.pow_succ, Nat.mul_comm (2 ^ j) 2, Nat.mod_mul]
        (first | lia | omega)
      rw [e1]
      first | exact exI2 _ _ ⟨rfl, hs2.trans s3.sb⟩ | exact ⟨_, _, rfl, hs2.trans s3.sb⟩
    · intro σ hh0
      first
        | (refine ex2 hh0 fun H2 o hh1 => ?_; refine an2 hh1 fun hr0 hs2 => ?_; clear hh1 hh0; subst hr0)
        | (refine an4 hh0 fun H2 o hr0 hs2 => ?_; clear hh0; subst hr0)
        | (refine ex1 hh0 fun H2 hh1 => ?_; refine an3 hh1 fun o hr0 hs2 => ?_; clear hh1 hh0; subst hr0)
        | obtain ⟨H2, o, rfl, hs2⟩ := hh0
      repeat' walk_at "vc"
      rename_i t H3 s3 n3 e3 o3
      refine k t _ _ _ (Hp.back_sub (hs2.trans s3.sb)) e3 ⟨by (first | lia | omega), by (first | lia | omega), by (first | lia | omega), ?_, ?_⟩
      · rw [show top + 1 - (top + 1 - last) = last by (first | lia | omega), Nat.mod_mod_of_dvd _ (by
          have : 2 ^ 1 ∣ 2 ^ (top + 1 - last) := Nat.pow_dvd_pow 2 (by (first | lia | omega))
          simpa using this)]
        exact hodd
      · rw [show top + 1 - (top - last + 1) = top + 1 - (top + 1 - last) by (first | lia | omega), show top - last + 1 = top + 1 - last by (first | lia | omega)]
end
local macro_rules | `(tactic| walk_at "ct") => `(tactic| with_reducible refine' window_size_ok ?_ ?_)
local macro_rules | `(tactic| walk_at "ct") => `(tactic| with_reducible refine' window_at_ok (by assumption) (by walk_at "rd") ?_ ?_ ?_ ?_ ?_)
section
variable {W : World} {B : Heap} {D : Nat} {H : Hp} {Q : AV → Hp → Prop} {w : Nat}
structure TimesOk (g : Gs) (D : Nat) (f : Addr) (H₀ : Hp) (R : Nat → AV → Hp → Prop) : Prop where
  mono : ∀ i v H H', R i v H → Sb H H' → R i v H'
  turn : ∀ i v H H' q b vs x, R i v H → H.rd q = some (.list (b :: vs)) → R 1 b H → Turned H q x H' → R i v H'
  fn : ∀ H l P, H₀.Sub H → P → fnK g (.ref f) ⟨l, H⟩ P
  isn : ∀ i v H (QB : Bool → Stt → Prop) σ, R i v H → QB false σ → cmpC .Is v .none QB σ
  call : ∀ H x y i j Q, H₀.Sub H → R i x H → R j y H → i + j ≤ 4096 → (∀ r H', H.Sub H' → R (i + j) r H' → Q r H') → callP g D f [x, y] H Q
theorem atI_last {xs : List AV} {z : AV} (h : xs[xs.length - 1]? = some z) : atI xs (-((1 : Nat) : Int)) = some z := by
  have hl := (List.getElem?_eq_some_iff.mp h).1
  unfold atI
  rw [if_neg (by (first | lia | omega)), if_pos (by (first | lia | omega))]
  rw [show (-((1 : Nat) : Int) + (xs.length : Int)).toNat = xs.length - 1 by (first | lia | omega)]; exact h
theorem atI_at {xs : List AV} {z : AV} {i : Nat} (h : xs[i]? = some z) : atI xs (i : Int) = some z := by
  unfold atI
  rw [if_pos (by (first | lia | omega)), Int.toNat_natCast]; exact h
theorem odd_powers_ok {R : Nat → AV → Hp → Prop} {H₀ : Hp} {f : Addr} {base : AV} {size : Nat} (T : TimesOk (gs W B) D f H₀ R) (hs : H₀.Sub H) (hb : R 1 base H) (hz : 1 ≤ size ∧ size ≤ 8)
    (k : ∀ r H' vs, H.Sub H' → H'.rd r = some (.list vs) → vs.length = 2 ^ (size - 1) → (∀ i av, vs[i]? = some av → R (2 * i + 1) av H') → Q (.ref r) H') : callP (gs W B) (D + 1) 257 [base, .int (size : Int), .ref f] H Q := by
  have p1 : 2 ^ (size - 1) ≤ 2 ^ 7 := Nat.pow_le_pow_right (by decide) (by (first | lia | omega))
  have p0 : 0 < 2 ^ (size - 1) := Nat.pow_pos (by decide)
  refine' callP_def0 (Wb := _) (hK := rfl) rfl rfl rfl rfl rfl [Str.ofString "base", Str.ofString "size", Str.ofString "times"] [Str.ofString "found", Str.ofString "square", Str.ofString "turn"] (by decide) rfl rfl rfl ?hb ?hw [some (base), some (.int (size : Int)), some (.ref f), none, none, none] rfl ?hv
  case hb => exact fun vs hv => vrs_all (P := fun vs => bindArgs _ ⟨vs, []⟩ = pure (List.zip _ vs)) hv (fun _ _ _ => rfl)
  case hw =>
    intro A L
    simp only [List.cons_append, List.nil_append]
    repeat' walk_at "tr"
  case' hv => skip
  repeat' walk_at "vc"
  refine vc_list (by simp) ?_
  repeat' walk_at "vc"
  rename_i q H1 s1 n1 e1 o1
  refine T.fn _ _ _ (hs.trans s1) ?_
  repeat' walk_at "vc"
  refine T.call _ _ _ 1 1 _ (hs.trans s1) (T.mono _ _ _ _ hb s1.sb) (T.mono _ _ _ _ hb s1.sb) (by (first | lia | omega)) fun sq H2 s2 hr2 => ?_
  repeat' walk_at "vc"
  refine vq_forU (fun j σ => ∃ H' vs o, σ = ⟨[some base, some (.int (size : Int)), some (.ref f), some (.ref q), some sq, o], H'⟩ ∧ H.Sub H' ∧ H'.rd q = some (.list (base :: vs)) ∧ H'.own q ∧ vs.length = j ∧ (∀ i av, (base :: vs)[i]? = some av → R (2 * i + 1) av H') ∧ R 2 sq H')
    ⟨H2, [], _, rfl, s1.trans s2, s2.get e1, s2.2.1 _ o1, rfl, fun i av h => ?_, hr2⟩ ?_ ?_
  · cases i with
    | zero => cases h; exact T.mono _ _ _ _ hb (s1.trans s2).sb
    | succ i => simp at h
  · intro j σ hj hh0
    first
      | (refine ex3 hh0 fun H3 vs o hh1 => ?_; refine an7 hh1 fun hr0 hs3 hq hoq hlen hI hsq => ?_; clear hh1 hh0; subst hr0)
      | (refine an10 hh0 fun H3 vs o hr0 hs3 hq hoq hlen hI hsq => ?_; clear hh0; subst hr0)
      | (refine ex1 hh0 fun H3 hh1 => ?_; refine an9 hh1 fun vs o hr0 hs3 hq hoq hlen hI hsq => ?_; clear hh1 hh0; subst hr0)
      | (refine ex2 hh0 fun H3 vs hh1 => ?_; refine an8 hh1 fun o hr0 hs3 hq hoq hlen hI hsq => ?_; clear hh1 hh0; subst hr0)
      | obtain ⟨H3, vs, o, rfl, hs3, hq, hoq, hlen, hI, hsq⟩ := hh0
    have hl1 : (base :: vs).length = j + 1 := by simp [hlen]
    obtain ⟨z, hz1⟩ : ∃ z, (base :: vs)[(base :: vs).length - 1]? = some z := ⟨_, List.getElem?_eq_getElem (by (first | lia | omega))⟩
    have hrz : R (2 * j + 1) z H3 := by
      have := hI _ _ hz1
      rwa [hl1, Nat.add_sub_cancel] at this
    repeat' walk_at "vc"
    refine vc_isList hq ?_
    repeat' walk_at "vc"
    refine T.fn _ _ _ (hs.trans hs3) ?_
    repeat' walk_at "vc"
    refine vc_idx hq (atI_last hz1) (by (first | lia | omega)) ?_
    repeat' walk_at "vc"
    refine T.call _ _ _ (2 * j + 1) 2 _ (hs.trans hs3) hrz hsq (by (first | lia | omega)) fun r H4 s4 hr4 => ?_
    refine vc_app (s4.get hq) (s4.2.1 _ hoq) (by (first | lia | omega)) fun H5 t5 => ?_
    repeat' walk_at "vc"
    have b5 : H.Sub H5 := (hs3.trans s4).turned n1 t5
    have hs45 : ∀ i av, R i av H4 → R i av H5 := fun i av h => T.turn _ _ _ _ _ _ _ _ h (s4.get hq) (T.mono _ _ _ _ hb (hs3.trans s4).sb) t5
    refine ⟨H5, vs ++ [r], _, rfl, b5, t5.at_, (t5.own q).mpr (s4.2.1 _ hoq), by simp [hlen], fun i av h => ?_, hs45 _ _ (T.mono _ _ _ _ hsq s4.sb)⟩
    rw [← List.cons_append] at h
    by_cases hi : i < (base :: vs).length
    · rw [List.getElem?_append_left hi] at h
      exact hs45 _ _ (T.mono _ _ _ _ (hI i av h) s4.sb)
    · rw [List.getElem?_append_right (by (first | lia | omega))] at h
      have hi2 : i - (base :: vs).length = 0 := by
        have := (List.getElem?_eq_some_iff.mp h).1
        simp at this; simp; (first | lia | omega)
      rw [hi2] at h
      cases h
      rw [show 2 * i + 1 = 2 * j + 1 + 2 by (first | lia | omega)]
      exact hs45 _ _ hr4
  · intro σ hh0
    first
      | (refine ex3 hh0 fun H3 vs o hh1 => ?_; refine an7 hh1 fun hr0 hs3 hq hoq hlen hI hsq => ?_; clear hh1 hh0; subst hr0)
      | (refine an10 hh0 fun H3 vs o hr0 hs3 hq hoq hlen hI hsq => ?_; clear hh0; subst hr0)
      | (refine ex1 hh0 fun H3 hh1 => ?_; refine an9 hh1 fun vs o hr0 hs3 hq hoq hlen hI hsq => ?_; clear hh1 hh0; subst hr0)
      | (refine ex2 hh0 fun H3 vs hh1 => ?_; refine an8 hh1 fun o hr0 hs3 hq hoq hlen hI hsq => ?_; clear hh1 hh0; subst hr0)
      | obtain ⟨H3, vs, o, rfl, hs3, hq, hoq, hlen, hI, hsq⟩ := hh0
    repeat' walk_at "vc"
    exact k q _ _ (Hp.back_sub hs3.sb) hq (by simp [hlen]; (first | lia | omega)) fun i av h => T.mono _ _ _ _ (hI i av h) (fun _ _ e => e)
theorem callP.up {g : Gs} {D : Nat} {f : Addr} {as : List AV} {H : Hp} {Q : AV → Hp → Prop} (h : callP g D f as H Q) : callP g (D + 1) f as H Q :=
  ⟨fun ok A s vals h1 h2 h3 h4 h5 h6 => h.run ok A s vals h1 (by (first | lia | omega)) (by (first | lia | omega)) h4 h5 h6⟩
theorem div_next (E s : Nat) : E / 2 ^ s = 2 * (E / 2 ^ (s + 1)) + E / 2 ^ s % 2 := by
  rw [Nat.pow_succ, ← Nat.div_div_eq_div_mul]; (first | lia | omega)
theorem div_window (E s m : Nat) (h : m ≤ s) : E / 2 ^ (s - m) = E / 2 ^ s * 2 ^ m + E / 2 ^ (s - m) % 2 ^ m := by
  have e : 2 ^ s = 2 ^ (s - m) * 2 ^ m := by rw [← Nat.pow_add]; congr 1; (first | lia | omega)
  rw [e, ← Nat.div_div_eq_div_mul, Nat.mul_comm]
  exact (Nat.div_add_mod _ _).symm
theorem by_windows_ok {R : Nat → AV → Hp → Prop} {H₀ : Hp} {f a : Addr} {base one : AV} {size E : Nat} (hw : 2 ≤ w ∧ w ≤ 9) (T : TimesOk (gs W B) (D + 1) f H₀ R) (hs : H₀.Sub H) (hb : R 1 base H) (ha : H.rd a = some (LN (dg (2 ^ w) E))) (hE : E < 2 ^ 10) (hz : 1 ≤ size ∧ size ≤ 8)
    (k0 : E = 0 → RetV H one Q) (k : 0 < E → ∀ v H', H.Sub H' → R E v H' → Q v H') : callP (gs W B) (D + 3) 271 [base, .ref a, .int (size : Int), .int (w : Int), one, .ref f] H Q := by
  obtain ⟨b1, b2⟩ := pw hw
  refine' callP_def0 (Wb := _) (hK := rfl) rfl rfl rfl rfl rfl [Str.ofString "base", Str.ofString "e", Str.ofString "size", Str.ofString "w", Str.ofString "one", Str.ofString "times"] [Str.ofString "table", Str.ofString "found", Str.ofString "spot", Str.ofString "value", Str.ofString "many", Str.ofString "turn"] (by decide) rfl rfl rfl ?hb ?hw [some (base), some (.ref a), some (.int (size : Int)), some (.int (w : Int)), some (one), some (.ref f), none, none, none, none, none, none] rfl ?hv
  case hb => exact fun vs hv => vrs_all (P := fun vs => bindArgs _ ⟨vs, []⟩ = pure (List.zip _ vs)) hv (fun _ _ _ _ _ _ => rfl)
  case hw =>
    intro A L
    simp only [List.cons_append, List.nil_append]
    repeat' walk_at "tr"
  case' hv => skip
  repeat' walk_at "vc"
  · rename_i q H1 s1 n1 e1 o1 g
    rw [dg_eq_nil (by (first | lia | omega))] at g
    exact (k0 g).done s1.sb
  rename_i q0 H0 s0 n0 e0 o0 g
  rw [dg_eq_nil (by (first | lia | omega))] at g
  have hE0 : 0 < E := Nat.pos_of_ne_zero g
  replace k := k hE0
  have hbl : 1 ≤ bl E := bl_pos hE0
  have hlt := bl_lt E
  have hge := bl_ge hE0
  have hbl10 : bl E ≤ 10 := by
    rcases Nat.lt_or_ge 10 (bl E) with z | z
    · have := Nat.pow_le_pow_right (n := 2) (by decide) (show 10 ≤ bl E - 1 by (first | lia | omega))
      (first | lia | omega)
    · exact z
  refine odd_powers_ok T (hs.trans s0) (T.mono _ _ _ _ hb s0.sb) hz fun tb H1 vs s1 htb hvl hvs => ?_
  have s01 := s0.trans s1
  have ha1 := s01.sb.get ha
  repeat' walk_at "vc"
  rename_i H2 s2
  refine vq_while (fun n σ => ∃ H' fv v m t, σ = ⟨[some base, some (.ref a), some (.int (size : Int)), some (.int (w : Int)), some one, some (.ref f), some (.ref tb), some fv, some (.int (((n : Nat) : Int) - ((1 : Nat) : Int))), v, m, t], H'⟩ ∧ H1.Sub H' ∧ ((fv = .none ∧ n = bl E) ∨ (R (E / 2 ^ n) fv H' ∧ n < bl E))) (bl E)
    ⟨H2, .none, none, none, none, ?_, s2, .inl ⟨rfl, rfl⟩⟩ ?_
  · first | rfl | (rw [Int.ofNat_sub hbl])
  intro n σ hh0
  first
    | (refine ex5 hh0 fun H3 fv v m t hh1 => ?_; refine an3 hh1 fun hr0 hs3 hfv => ?_; clear hh1 hh0; subst hr0)
    | (refine an8 hh0 fun H3 fv v m t hr0 hs3 hfv => ?_; clear hh0; subst hr0)
    | (refine ex1 hh0 fun H3 hh1 => ?_; refine an7 hh1 fun fv v m t hr0 hs3 hfv => ?_; clear hh1 hh0; subst hr0)
    | (refine ex2 hh0 fun H3 fv hh1 => ?_; refine an6 hh1 fun v m t hr0 hs3 hfv => ?_; clear hh1 hh0; subst hr0)
    | (refine ex3 hh0 fun H3 fv v hh1 => ?_; refine an5 hh1 fun m t hr0 hs3 hfv => ?_; clear hh1 hh0; subst hr0)
    | (refine ex4 hh0 fun H3 fv v m hh1 => ?_; refine an4 hh1 fun t hr0 hs3 hfv => ?_; clear hh1 hh0; subst hr0)
    | obtain ⟨H3, fv, v, m, t, rfl, hs3, hfv⟩ := hh0
  have ha3 := hs3.sb.get ha1
  have sH3 : H.Sub H3 := s01.trans hs3
  rcases n with _ | n
  · repeat' walk_at "vc"
    · rename_i z; exact absurd z (by (first | lia | omega))
    · rcases hfv with ⟨_, z⟩ | ⟨hr, _⟩
      · (first | lia | omega)
      · rw [Nat.pow_zero, Nat.div_one] at hr
        exact k _ _ (Hp.back_sub sH3.sb) (T.mono _ _ _ _ hr fun _ _ e => e)
  · have en : ((n + 1 : Nat) : Int) - ((1 : Nat) : Int) = (n : Int) := by (first | lia | omega)
    rw [en]
    have hn10 : n < 10 := by rcases hfv with ⟨_, z⟩ | ⟨_, z⟩ <;> (first | lia | omega)
    have hnone : n + 1 = bl E → E / 2 ^ (n + 1) = 0 ∧ E / 2 ^ n % 2 = 1 := fun z => by
      rw [← z] at hlt hge
      have h1 : E / 2 ^ (n + 1) = 0 := Nat.div_eq_of_lt hlt
      have h2 := div_next E n
      have h3 : 0 < E / 2 ^ n := Nat.div_pos hge (Nat.pow_pos (by decide))
      (first | lia | omega)
    repeat' walk_at "vc"
    · rename_i H4 s4 gb
      obtain ⟨hr, hlt2⟩ : R (E / 2 ^ (n + 1)) fv H3 ∧ n + 1 < bl E := by
        rcases hfv with ⟨_, z⟩ | z
        · have := (hnone z).2; (first | lia | omega)
        · exact z
      refine T.fn _ _ _ ((hs.trans sH3).trans s4) ?_
      repeat' walk_at "vc"
      have hr4 := T.mono _ _ _ _ hr s4.sb
      have hsmall : E / 2 ^ (n + 1) ≤ E := Nat.div_le_self _ _
      refine (T.call _ _ _ _ _ _ ((hs.trans sH3).trans s4) hr4 hr4 (by (first | lia | omega)) fun r H5 s5 hr5 => ?_).up
      repeat' walk_at "vc"
      refine vq_loopC n (by (first | lia | omega)) ⟨H5, r, _, _, _, rfl, (hs3.trans s4).trans s5, .inr ⟨?_, by (first | lia | omega)⟩⟩
      have h2 := div_next E n
      rw [show E / 2 ^ n = E / 2 ^ (n + 1) + E / 2 ^ (n + 1) by (first | lia | omega)]; exact hr5
    · (first | lia | omega)
    · (first | lia | omega)
    · rename_i H4 s4 gb
      intro tp v m H5 s5 htp hwin
      repeat' walk_at "vc"
      refine vq_tup htp rfl ?_
      repeat' walk_at "vc"
      have w1 := hwin.mt
      have w2 := hwin.ms
      have w3 := hwin.odd
      have w4 := hwin.val
      have w0 := hwin.m0
      have e9 : ((n : Nat) : Int) - ((m : Nat) : Int) = ((n + 1 - m : Nat) : Int) - ((1 : Nat) : Int) := by (first | lia | omega)
      have hvlt : v / 2 < 2 ^ (size - 1) := by
        have h1 : v < 2 ^ m := by rw [w4]; exact Nat.mod_lt _ (Nat.pow_pos (by decide))
        have h2 : 2 ^ m ≤ 2 ^ size := Nat.pow_le_pow_right (by decide) w2
        have h3 : 2 ^ size = 2 * 2 ^ (size - 1) := by rw [← Nat.pow_succ']; congr 1; (first | lia | omega)
        (first | lia | omega)
      obtain ⟨av, hav⟩ : ∃ av, vs[v / 2]? = some av := ⟨_, List.getElem?_eq_getElem (by (first | lia | omega))⟩
      have hrv : R v av H1 := by
        have := hvs _ _ hav
        rwa [show 2 * (v / 2) + 1 = v by (first | lia | omega)] at this
      have hv10 : v < 4096 := by
        have : E / 2 ^ (n + 1 - m) % 2 ^ m ≤ E := Nat.le_trans (Nat.mod_le _ _) (Nat.div_le_self _ _)
        (first | lia | omega)
      have sH5 := (hs3.trans s4).trans s5
      have hdw := div_window E (n + 1) m w1
      rw [← w4] at hdw
      rcases hfv with ⟨rfl, z⟩ | ⟨hr, z⟩
      · repeat' walk_at "vc"
        refine vc_idx (sH5.get htb) (atI_at hav) (by (first | lia | omega)) ?_
        repeat' walk_at "vc"
        rw [e9]
        refine vq_loop (n + 1 - m) (by (first | lia | omega)) ⟨H5, av, _, _, _, rfl, sH5, .inr ⟨?_, by (first | lia | omega)⟩⟩
        rw [hdw, (hnone z).1, Nat.zero_mul, Nat.zero_add]
        exact T.mono _ _ _ _ hrv sH5.sb
      · have hr5 := T.mono _ _ _ _ hr (s4.trans s5).sb
        refine T.isn _ _ _ _ _ hr5 ?_
        repeat' walk_at "vc"
        have hdle : E / 2 ^ (n + 1 - m) ≤ E := Nat.div_le_self _ _
        refine vq_forU (fun j σ => ∃ H' fv' t', σ = ⟨[some base, some (.ref a), some (.int (size : Int)), some (.int (w : Int)), some one, some (.ref f), some (.ref tb), some fv', some (.int (n : Int)), some (.int (v : Int)), some (.int (m : Int)), t'], H'⟩ ∧ H5.Sub H' ∧ R (E / 2 ^ (n + 1) * 2 ^ j) fv' H') ⟨H5, fv, _, rfl, .refl, by rw [Nat.pow_zero, Nat.mul_one]; exact hr5⟩ ?_ ?_
        · intro j σ hj hh0
          first
            | (refine ex3 hh0 fun H6 fv' t' hh1 => ?_; refine an3 hh1 fun hr0 s6 hr6 => ?_; clear hh1 hh0; subst hr0)
            | (refine an6 hh0 fun H6 fv' t' hr0 s6 hr6 => ?_; clear hh0; subst hr0)
            | (refine ex1 hh0 fun H6 hh1 => ?_; refine an5 hh1 fun fv' t' hr0 s6 hr6 => ?_; clear hh1 hh0; subst hr0)
            | (refine ex2 hh0 fun H6 fv' hh1 => ?_; refine an4 hh1 fun t' hr0 s6 hr6 => ?_; clear hh1 hh0; subst hr0)
            | obtain ⟨H6, fv', t', rfl, s6, hr6⟩ := hh0
          repeat' walk_at "vc"
          have sH6 : H.Sub H6 := (s01.trans sH5).trans s6
          refine T.fn _ _ _ (hs.trans sH6) ?_
          repeat' walk_at "vc"
          have hsm : E / 2 ^ (n + 1) * 2 ^ j ≤ E := by
            have h1 : E / 2 ^ (n + 1) * 2 ^ j ≤ E / 2 ^ (n + 1) * 2 ^ m := Nat.mul_le_mul_left _ (Nat.pow_le_pow_right (by decide) (Nat.le_of_lt hj))
            (first | lia | omega)
          refine (T.call _ _ _ _ _ _ (hs.trans sH6) hr6 hr6 (by (first | lia | omega)) fun r H7 s7 hr7 => ?_).up
          repeat' walk_at "vc"
          first | refine exI3 H7 r _ ⟨rfl, s6.trans s7, ?_⟩ | refine ⟨H7, r, _, rfl, s6.trans s7, ?_⟩
          rw [Nat.pow_succ 2 j, ← Nat.mul_assoc, Nat.mul_two]; exact hr7
        · intro σ hh0
          first
            | (refine ex3 hh0 fun H6 fv' t' hh1 => ?_; refine an3 hh1 fun hr0 s6 hr6 => ?_; clear hh1 hh0; subst hr0)
            | (refine an6 hh0 fun H6 fv' t' hr0 s6 hr6 => ?_; clear hh0; subst hr0)
            | (refine ex1 hh0 fun H6 hh1 => ?_; refine an5 hh1 fun fv' t' hr0 s6 hr6 => ?_; clear hh1 hh0; subst hr0)
            | (refine ex2 hh0 fun H6 fv' hh1 => ?_; refine an4 hh1 fun t' hr0 s6 hr6 => ?_; clear hh1 hh0; subst hr0)
            | obtain ⟨H6, fv', t', rfl, s6, hr6⟩ := hh0
          repeat' walk_at "vc"
          have sH6 : H.Sub H6 := (s01.trans sH5).trans s6
          refine T.fn _ _ _ (hs.trans sH6) ?_
          repeat' walk_at "vc"
          refine vc_idx ((sH5.trans s6).get htb) (atI_at hav) (by (first | lia | omega)) ?_
          repeat' walk_at "vc"
          refine (T.call _ _ _ _ _ _ (hs.trans sH6) hr6 (T.mono _ _ _ _ hrv (sH5.trans s6).sb) (by (first | lia | omega)) fun r H7 s7 hr7 => ?_).up
          repeat' walk_at "vc"
          rw [e9]
          refine vq_loop (n + 1 - m) (by (first | lia | omega)) ⟨H7, r, _, _, _, rfl, (sH5.trans s6).trans s7, .inr ⟨?_, by (first | lia | omega)⟩⟩
          rw [hdw]; exact hr7
    · rename_i z; exact absurd (Nat.zero_le n) z
end
section
variable {W : World} {B : Heap} {D : Nat} {H : Hp} {Q : AV → Hp → Prop} {w : Nat}
theorem doubled_rest_ok {a c : Addr} {x m : Nat} (hw : 2 ≤ w ∧ w ≤ 9) (ha : H.rd a = some (LN (dg (2 ^ w) x))) (hc : H.rd c = some (LN (dg (2 ^ w) m))) (hx : x < m) (hm : m < 2 ^ 100) (k : RetO H (dg (2 ^ w) (2 * x % m)) Q) : callP (gs W B) (D + 3) 201 [.ref a, .ref c, .int (w : Int)] H Q := by
  refine' callP_def0 (Wb := _) (hK := rfl) rfl rfl rfl rfl rfl [Str.ofString "a", Str.ofString "m", Str.ofString "w"] [Str.ofString "found"] (by decide) rfl rfl rfl ?hb ?hw [some (.ref a), some (.ref c), some (.int (w : Int)), none] rfl ?hv
  case hb => exact fun vs hv => vrs_all (P := fun vs => bindArgs _ ⟨vs, []⟩ = pure (List.zip _ vs)) hv (fun _ _ _ => rfl)
  case hw =>
    intro A L
    simp only [List.cons_append, List.nil_append]
    repeat' walk_at "tr"
  case' hv => skip
  have e1 : x * 2 ^ 1 = 2 * x := by (first | lia | omega)
  repeat' walk_at "vc"
  · rename_i r1 H1 s1 n1 e2 o1 H2 s2 g r3 H3 s3 n3 e3 o3
    rw [e1, show 2 * x - m = 2 * x % m by rw [Nat.mod_eq_sub_mod (by (first | lia | omega)), Nat.mod_eq_of_lt (by (first | lia | omega))]] at e3
    exact k.done ((s1.trans s2).trans s3).sb e3
  · rename_i r1 H1 s1 n1 e2 o1 H2 s2 g
    rw [e1] at e2
    rw [Nat.mod_eq_of_lt (by (first | lia | omega))] at k
    exact k.done (s1.trans s2).sb (s2.get e2)
local macro_rules | `(tactic| walk_at "ct") => `(tactic| with_reducible refine' doubled_rest_ok (by assumption) (by walk_at "rd") (by walk_at "rd") ?_ ?_ ?_)
theorem taken_once_ok {a c : Addr} {x m : Nat} (hw : 2 ≤ w ∧ w ≤ 9) (ha : H.rd a = some (LN (dg (2 ^ w) x))) (hc : H.rd c = some (LN (dg (2 ^ w) m))) (hx : x < 2 * m) (hm : m < 2 ^ 100) (k : RetO H (dg (2 ^ w) (x % m)) Q) : callP (gs W B) (D + 3) 222 [.ref a, .ref c, .int (w : Int)] H Q := by
  refine' callP_def0 (Wb := _) (hK := rfl) rfl rfl rfl rfl rfl [Str.ofString "a", Str.ofString "m", Str.ofString "w"] [] (by decide) rfl rfl rfl ?hb ?hw [some (.ref a), some (.ref c), some (.int (w : Int))] rfl ?hv
  case hb => exact fun vs hv => vrs_all (P := fun vs => bindArgs _ ⟨vs, []⟩ = pure (List.zip _ vs)) hv (fun _ _ _ => rfl)
  case hw =>
    intro A L
    simp only [List.cons_append, List.nil_append]
    repeat' walk_at "tr"
  case' hv => skip
  repeat' walk_at "vc"
  · rename_i H2 s2 g r3 H3 s3 n3 e3 o3
    rw [show x - m = x % m by rw [Nat.mod_eq_sub_mod (by (first | lia | omega)), Nat.mod_eq_of_lt (by (first | lia | omega))]] at e3
    exact k.done (s2.trans s3).sb e3
  · rename_i H2 s2 g
    rw [Nat.mod_eq_of_lt (by (first | lia | omega))] at k
    exact k.done s2.sb (s2.get ha)
local macro_rules | `(tactic| walk_at "ct") => `(tactic| with_reducible refine' taken_once_ok (by assumption) (by walk_at "rd") (by walk_at "rd") ?_ ?_ ?_)
theorem power_e {a b : Nat} (h : a = b) : a = b := h
end
section
variable {W : World} {B : Heap} {D : Nat} {H : Hp} {Q : AV → Hp → Prop} {w : Nat}
theorem carry_lt {b cy x y l : Nat} (h1 : cy < b) (h2 : x < b) (h3 : y < b) (h4 : l < b) : (cy + (x + y * l)) / b < b := by
  refine Nat.div_lt_of_lt_mul ?_
  obtain ⟨t, rfl⟩ : ∃ t, b = t + 1 := ⟨b - 1, by (first | lia | omega)⟩
  have := Nat.mul_le_mul (Nat.le_of_lt_succ h3) (Nat.le_of_lt_succ h4)
  have e : (t + 1) * (t + 1) = t * t + 2 * t + 1 := by grind
  (first | lia | omega)
theorem set_step {b k c cy z : Nat} {rs : List Nat} (hk : k < rs.length) (hc : c = cy + (rs.getD k 0 + z)) : num b (rs.set k (c % b)) + b ^ (k + 1) * (c / b) = num b rs + b ^ k * (cy + z) := by
  have h1 := num_set (b := b) rs k (c % b) hk
  have h2 : b ^ k * (c % b) + b ^ (k + 1) * (c / b) = b ^ k * c := by
    rw [Nat.pow_succ, Nat.mul_assoc, ← Nat.mul_add, Nat.mod_add_div]
  have h3 : b ^ k * c = b ^ k * (cy + z) + b ^ k * rs.getD k 0 := by rw [hc]; grind
  (first | lia | omega)
theorem back_but {H H' : Hp} {r : Addr} {y : AObj} (h : ∀ a ao, a ≠ r → H.rd a = some ao → H'.rd a = some ao) (hr : H.rd r = some y) : SubBut r H (H'.back H) :=
  ⟨h, fun a e => .inr e, fun a e => e.elim (fun e => .inr ⟨fun z => (by rw [z, hr] at e; cases e.2), e.2⟩) .inl⟩
theorem add_row_ok {r a : Addr} {rs ms : List Nat} {limb at_ : Nat} (hw : 2 ≤ w ∧ w ≤ 9) (hr : H.rd r = some (LN rs)) (ho : H.own r) (hra : r ≠ a) (ha : H.rd a = some (LN ms)) (hrD : Dig (2 ^ w) rs) (hmD : Dig (2 ^ w) ms) (hlen : rs.length ≤ 300) (hl : limb < 2 ^ w)
    (hroom : num (2 ^ w) rs + (2 ^ w) ^ at_ * (num (2 ^ w) ms * limb) < (2 ^ w) ^ rs.length) (hat : at_ + ms.length ≤ rs.length)
    (k : ∀ H' rs', SubBut r H H' → H'.rd r = some (LN rs') → H'.own r → Dig (2 ^ w) rs' → rs'.length = rs.length → num (2 ^ w) rs' = num (2 ^ w) rs + (2 ^ w) ^ at_ * (num (2 ^ w) ms * limb) → Q .none H') : callP (gs W B) (D + 1) 215 [.ref r, .ref a, .int (limb : Int), .int (at_ : Int), .int (w : Int)] H Q := by
  obtain ⟨b1, b2⟩ := pw hw
  refine' callP_def0 (Wb := _) (hK := rfl) rfl rfl rfl rfl rfl [Str.ofString "rest", Str.ofString "m", Str.ofString "limb", Str.ofString "at", Str.ofString "w"] [Str.ofString "carry", Str.ofString "mask", Str.ofString "one"] (by decide) rfl rfl rfl ?hb ?hw [some (.ref r), some (.ref a), some (.int (limb : Int)), some (.int (at_ : Int)), some (.int (w : Int)), none, none, none] rfl ?hv
  case hb => exact fun vs hv => vrs_all (P := fun vs => bindArgs _ ⟨vs, []⟩ = pure (List.zip _ vs)) hv (fun _ _ _ _ _ => rfl)
  case hw =>
    intro A L
    simp only [List.cons_append, List.nil_append]
    repeat' walk_at "tr"
  case' hv => skip
  repeat' walk_at "vc"
  have hml : ms.length ≤ 300 := by (first | lia | omega)
  refine vq_forL ha (fun j σ => ∃ H' rs' cy o, σ = ⟨[some (.ref r), some (.ref a), some (.int (limb : Int)), some (.int ((at_ + j : Nat) : Int)), some (.int (w : Int)), some (.int ((cy : Nat) : Int)), some (.int ((1 * 2 ^ w - 1 : Nat) : Int)), o], H'⟩ ∧ (∀ x ao, x ≠ r → H.rd x = some ao → H'.rd x = some ao) ∧ H'.rd r = some (LN rs') ∧ H'.own r ∧ Dig (2 ^ w) rs' ∧ rs'.length = rs.length ∧ cy < 2 ^ w ∧
    num (2 ^ w) rs' + (2 ^ w) ^ (at_ + j) * cy = num (2 ^ w) rs + (2 ^ w) ^ at_ * (num (2 ^ w) (ms.take j) * limb))
    (fun H' e eo => ⟨H', rs, 0, _, rfl, fun x ao _ z => by rw [e]; exact z, by rw [e]; exact hr, eo _ hra ho, hrD, rfl, by (first | lia | omega), by simp [num]⟩) ?_ ?_
  · intro j σ hj hh0
    first
      | (refine ex4 hh0 fun H' rs' cy o hh1 => ?_; refine an8 hh1 fun hr0 hs' hr' ho' hD hlr hcy hI => ?_; clear hh1 hh0; subst hr0)
      | (refine an12 hh0 fun H' rs' cy o hr0 hs' hr' ho' hD hlr hcy hI => ?_; clear hh0; subst hr0)
      | (refine ex1 hh0 fun H' hh1 => ?_; refine an11 hh1 fun rs' cy o hr0 hs' hr' ho' hD hlr hcy hI => ?_; clear hh1 hh0; subst hr0)
      | (refine ex2 hh0 fun H' rs' hh1 => ?_; refine an10 hh1 fun cy o hr0 hs' hr' ho' hD hlr hcy hI => ?_; clear hh1 hh0; subst hr0)
      | (refine ex3 hh0 fun H' rs' cy hh1 => ?_; refine an9 hh1 fun o hr0 hs' hr' ho' hD hlr hcy hI => ?_; clear hh1 hh0; subst hr0)
      | obtain ⟨H', rs', cy, o, rfl, hs', hr', ho', hD, hlr, hcy, hI⟩ := hh0
    have g1 := hmD.getD (by (first | lia | omega)) j
    have g2 := hD.getD (by (first | lia | omega)) (at_ + j)
    have g5 : ms.getD j 0 * limb ≤ 512 * 512 := Nat.mul_le_mul (by (first | lia | omega)) (by (first | lia | omega))
    repeat' walk_at "vc"
    refine vn_set hr' ho' (by (first | lia | omega)) (by (first | lia | omega)) (by (first | lia | omega)) rfl fun H2 t2 => ?_
    rw [Int.toNat_natCast] at t2
    repeat' walk_at "vc"
    first | refine exI4 H2 _ _ _ ⟨rfl, fun x ao n e => (t2.off x n).trans (hs' x ao n e), t2.at_, (t2.own r).mpr ho', hD.set (Nat.mod_lt _ (by (first | lia | omega))) _, by simp [hlr], carry_lt hcy g2 g1 hl, ?_⟩ | refine ⟨H2, _, _, _, rfl, fun x ao n e => (t2.off x n).trans (hs' x ao n e), t2.at_, (t2.own r).mpr ho', hD.set (Nat.mod_lt _ (by (first | lia | omega))) _, by simp [hlr], carry_lt hcy g2 g1 hl, ?_⟩
    rw [show at_ + (j + 1) = at_ + j + 1 by (first | lia | omega), set_step (by (first | lia | omega)) rfl, num_take_succ _ _ hj, Nat.mul_add, ← Nat.add_assoc, hI, Nat.pow_add]
    grind
  · intro σ hh0
    first
      | (refine ex4 hh0 fun H' rs' cy o hh1 => ?_; refine an8 hh1 fun hr0 hs' hr' ho' hD hlr hcy hI => ?_; clear hh1 hh0; subst hr0)
      | (refine an12 hh0 fun H' rs' cy o hr0 hs' hr' ho' hD hlr hcy hI => ?_; clear hh0; subst hr0)
      | (refine ex1 hh0 fun H' hh1 => ?_; refine an11 hh1 fun rs' cy o hr0 hs' hr' ho' hD hlr hcy hI => ?_; clear hh1 hh0; subst hr0)
      | (refine ex2 hh0 fun H' rs' hh1 => ?_; refine an10 hh1 fun cy o hr0 hs' hr' ho' hD hlr hcy hI => ?_; clear hh1 hh0; subst hr0)
      | (refine ex3 hh0 fun H' rs' cy hh1 => ?_; refine an9 hh1 fun o hr0 hs' hr' ho' hD hlr hcy hI => ?_; clear hh1 hh0; subst hr0)
      | obtain ⟨H', rs', cy, o, rfl, hs', hr', ho', hD, hlr, hcy, hI⟩ := hh0
    rw [List.take_length] at hI
    repeat' walk_at "vc"
    refine vq_while (fun n σ => ∃ H' rs' cy p, n = rs.length - p ∧ σ = ⟨[some (.ref r), some (.ref a), some (.int (limb : Int)), some (.int ((p : Nat) : Int)), some (.int (w : Int)), some (.int ((cy : Nat) : Int)), some (.int ((1 * 2 ^ w - 1 : Nat) : Int)), o], H'⟩ ∧ (∀ x ao, x ≠ r → H.rd x = some ao → H'.rd x = some ao) ∧ H'.rd r = some (LN rs') ∧ H'.own r ∧ Dig (2 ^ w) rs' ∧ rs'.length = rs.length ∧ cy < 2 ^ w ∧
      num (2 ^ w) rs' + (2 ^ w) ^ p * cy = num (2 ^ w) rs + (2 ^ w) ^ at_ * (num (2 ^ w) ms * limb)) _ ⟨H', rs', cy, at_ + ms.length, rfl, rfl, hs', hr', ho', hD, hlr, hcy, hI⟩ ?_
    intro n σ hh0
    first
      | (refine ex4 hh0 fun H2 rs2 cy2 p hh1 => ?_; refine an9 hh1 fun hr0 hr1 hs2 hr2 ho2 hD2 hlr2 hcy2 hI2 => ?_; clear hh1 hh0; subst hr0; subst hr1)
      | (refine an13 hh0 fun H2 rs2 cy2 p hr0 hr1 hs2 hr2 ho2 hD2 hlr2 hcy2 hI2 => ?_; clear hh0; subst hr0; subst hr1)
      | (refine ex1 hh0 fun H2 hh1 => ?_; refine an12 hh1 fun rs2 cy2 p hr0 hr1 hs2 hr2 ho2 hD2 hlr2 hcy2 hI2 => ?_; clear hh1 hh0; subst hr0; subst hr1)
      | (refine ex2 hh0 fun H2 rs2 hh1 => ?_; refine an11 hh1 fun cy2 p hr0 hr1 hs2 hr2 ho2 hD2 hlr2 hcy2 hI2 => ?_; clear hh1 hh0; subst hr0; subst hr1)
      | (refine ex3 hh0 fun H2 rs2 cy2 hh1 => ?_; refine an10 hh1 fun p hr0 hr1 hs2 hr2 ho2 hD2 hlr2 hcy2 hI2 => ?_; clear hh1 hh0; subst hr0; subst hr1)
      | obtain ⟨H2, rs2, cy2, p, rfl, rfl, hs2, hr2, ho2, hD2, hlr2, hcy2, hI2⟩ := hh0
    have g2 := hD2.getD (by (first | lia | omega)) p
    have hp : 0 < cy2 → p < rs2.length := fun z => by
      rcases Nat.lt_or_ge p rs2.length with q | q
      · exact q
      · have h1 : (2 ^ w) ^ rs.length ≤ (2 ^ w) ^ p := Nat.pow_le_pow_right (by (first | lia | omega)) (by (first | lia | omega))
        have h2 : (2 ^ w) ^ p * 1 ≤ (2 ^ w) ^ p * cy2 := Nat.mul_le_mul_left _ z
        (first | lia | omega)
    repeat' walk_at "vc"
    · rename_i g
      have hp' := hp g
      refine vn_set hr2 ho2 (by (first | lia | omega)) (by (first | lia | omega)) (by (first | lia | omega)) rfl fun H3 t3 => ?_
      rw [Int.toNat_natCast] at t3
      repeat' walk_at "vc"
      have hst := set_step (b := 2 ^ w) (k := p) (cy := cy2) (z := 0) (c := cy2 + rs2.getD p 0) hp' (by (first | lia | omega))
      refine vq_loop (rs.length - (p + 1)) (by (first | lia | omega)) ⟨H3, _, _, p + 1, rfl, rfl, fun x ao n e => (t3.off x n).trans (hs2 x ao n e), t3.at_, (t3.own r).mpr ho2, hD2.set (Nat.mod_lt _ (by (first | lia | omega))) _, by simp [hlr2], ?_, ?_⟩
      · have := carry_lt (y := 0) (l := 0) hcy2 g2 (by (first | lia | omega)) (by (first | lia | omega))
        simpa using this
      · rw [hst, Nat.add_zero, hI2]
    · rename_i g
      have hc0 : cy2 = 0 := by (first | lia | omega)
      rw [hc0, Nat.mul_zero, Nat.add_zero] at hI2
      exact k _ rs2 (back_but hs2 hr) hr2 (.inr ho) hD2 hlr2 hI2
end
section
local macro_rules | `(tactic| walk_at "ct") => `(tactic| with_reducible refine' doubled_rest_ok (by assumption) (by walk_at "rd") (by walk_at "rd") ?_ ?_ ?_)
local macro_rules | `(tactic| walk_at "ct") => `(tactic| with_reducible refine' taken_once_ok (by assumption) (by walk_at "rd") (by walk_at "rd") ?_ ?_ ?_)
variable {W : World} {B : Heap} {D : Nat} {H : Hp} {Q : AV → Hp → Prop} {w : Nat}
structure IsMont (H : Hp) (t : Addr) (w m : Nat) (rm ro rs : Addr) (mi : Nat) : Prop where
  obj : ∃ dx es n tk, H.rd t = some (.raw (instObj 190 dx)) ∧ H.rd dx = some (.raw (dictOf es n)) ∧ getL "modulus" es = some (some (.ref rm)) ∧ getL "minus" es = some (some (.int ((mi : Nat) : Int) tk)) ∧ getL "one" es = some (some (.ref ro)) ∧ getL "square" es = some (some (.ref rs))
  hm : H.rd rm = some (LN (dg (2 ^ w) m))
  ho : H.rd ro = some (LN (dg (2 ^ w) ((2 ^ w) ^ (dg (2 ^ w) m).length % m)))
  hs : H.rd rs = some (LN (dg (2 ^ w) ((2 ^ w) ^ (dg (2 ^ w) m).length * (2 ^ w) ^ (dg (2 ^ w) m).length % m)))
  mil : mi < 2 ^ w
  hmi : (mi * m + 1) % 2 ^ w = 0
  m0 : 0 < m
  odd : m % 2 = 1
  small : m < 2 ^ 40
theorem IsMont.mono {H H' : Hp} {t : Addr} {w m : Nat} {rm ro rs : Addr} {mi : Nat} (h : IsMont H t w m rm ro rs mi) (s : Sb H H') : IsMont H' t w m rm ro rs mi := by
  obtain ⟨⟨dx, es, n, tk, a, b, c⟩, hm, ho, hs, r1, r2, r3, r4, r5⟩ := h
  exact ⟨⟨dx, es, n, tk, s _ _ a, s _ _ b, c⟩, s _ _ hm, s _ _ ho, s _ _ hs, r1, r2, r3, r4, r5⟩
theorem mont_st : plainGet (gs W B).K 190 "modulus" = true ∧ hasDictIn (gs W B).K 190 = true ∧ findIn (gs W B).K (.ref 190) "modulus" = some none ∧ findIn (gs W B).K (.ref 190) "minus" = some none ∧ findIn (gs W B).K (.ref 190) "one" = some none ∧ findIn (gs W B).K (.ref 190) "square" = some none := by
  refine ⟨?_, ?_, ?_, ?_, ?_, ?_⟩ <;> rfl
theorem mont_modulus {t : Addr} {m : Nat} {rm ro rs : Addr} {mi : Nat} {l : List (Option AV)} {Q : AV → Stt → Prop} (h : IsMont H t w m rm ro rs mi) (k : Q (.ref rm) ⟨l, H⟩) : attrK (gs W B).K (Str.ofString "modulus") (.ref t) Q ⟨l, H⟩ := by
  first
    | (refine an10 (h.obj) fun dx es n tk a b c d e f => ?_)
    | (refine ex1 (h.obj) fun dx hh1 => ?_; refine an9 hh1 fun es n tk a b c d e f => ?_; clear hh1)
    | (refine ex2 (h.obj) fun dx es hh1 => ?_; refine an8 hh1 fun n tk a b c d e f => ?_; clear hh1)
    | (refine ex3 (h.obj) fun dx es n hh1 => ?_; refine an7 hh1 fun tk a b c d e f => ?_; clear hh1)
    | (refine ex4 (h.obj) fun dx es n tk hh1 => ?_; refine an6 hh1 fun a b c d e f => ?_; clear hh1)
    | (refine ex5 (h.obj) fun dx es n tk a hh1 => ?_; refine an5 hh1 fun b c d e f => ?_; clear hh1)
    | (refine ex6 (h.obj) fun dx es n tk a b hh1 => ?_; refine an4 hh1 fun c d e f => ?_; clear hh1)
    | obtain ⟨dx, es, n, tk, a, b, c, d, e, f⟩ := h.obj
  exact ⟨190, dx, es, n, _, _, a, b, mont_st.1, mont_st.2.1, mont_st.2.2.1, c, rfl, VR.r, k⟩
theorem mont_minus {t : Addr} {m : Nat} {rm ro rs : Addr} {mi : Nat} {l : List (Option AV)} {Q : AV → Stt → Prop} (h : IsMont H t w m rm ro rs mi) (k : Q (.int ((mi : Nat) : Int)) ⟨l, H⟩) : attrK (gs W B).K (Str.ofString "minus") (.ref t) Q ⟨l, H⟩ := by
  first
    | (refine an10 (h.obj) fun dx es n tk a b c d e f => ?_)
    | (refine ex1 (h.obj) fun dx hh1 => ?_; refine an9 hh1 fun es n tk a b c d e f => ?_; clear hh1)
    | (refine ex2 (h.obj) fun dx es hh1 => ?_; refine an8 hh1 fun n tk a b c d e f => ?_; clear hh1)
    | (refine ex3 (h.obj) fun dx es n hh1 => ?_; refine an7 hh1 fun tk a b c d e f => ?_; clear hh1)
    | (refine ex4 (h.obj) fun dx es n tk hh1 => ?_; refine an6 hh1 fun a b c d e f => ?_; clear hh1)
    | (refine ex5 (h.obj) fun dx es n tk a hh1 => ?_; refine an5 hh1 fun b c d e f => ?_; clear hh1)
    | (refine ex6 (h.obj) fun dx es n tk a b hh1 => ?_; refine an4 hh1 fun c d e f => ?_; clear hh1)
    | obtain ⟨dx, es, n, tk, a, b, c, d, e, f⟩ := h.obj
  exact ⟨190, dx, es, n, _, _, a, b, mont_st.1, mont_st.2.1, mont_st.2.2.2.1, d, rfl, VR.i, k⟩
theorem mont_one {t : Addr} {m : Nat} {rm ro rs : Addr} {mi : Nat} {l : List (Option AV)} {Q : AV → Stt → Prop} (h : IsMont H t w m rm ro rs mi) (k : Q (.ref ro) ⟨l, H⟩) : attrK (gs W B).K (Str.ofString "one") (.ref t) Q ⟨l, H⟩ := by
  first
    | (refine an10 (h.obj) fun dx es n tk a b c d e f => ?_)
    | (refine ex1 (h.obj) fun dx hh1 => ?_; refine an9 hh1 fun es n tk a b c d e f => ?_; clear hh1)
    | (refine ex2 (h.obj) fun dx es hh1 => ?_; refine an8 hh1 fun n tk a b c d e f => ?_; clear hh1)
    | (refine ex3 (h.obj) fun dx es n hh1 => ?_; refine an7 hh1 fun tk a b c d e f => ?_; clear hh1)
    | (refine ex4 (h.obj) fun dx es n tk hh1 => ?_; refine an6 hh1 fun a b c d e f => ?_; clear hh1)
    | (refine ex5 (h.obj) fun dx es n tk a hh1 => ?_; refine an5 hh1 fun b c d e f => ?_; clear hh1)
    | (refine ex6 (h.obj) fun dx es n tk a b hh1 => ?_; refine an4 hh1 fun c d e f => ?_; clear hh1)
    | obtain ⟨dx, es, n, tk, a, b, c, d, e, f⟩ := h.obj
  exact ⟨190, dx, es, n, _, _, a, b, mont_st.1, mont_st.2.1, mont_st.2.2.2.2.1, e, rfl, VR.r, k⟩
theorem mont_square {t : Addr} {m : Nat} {rm ro rs : Addr} {mi : Nat} {l : List (Option AV)} {Q : AV → Stt → Prop} (h : IsMont H t w m rm ro rs mi) (k : Q (.ref rs) ⟨l, H⟩) : attrK (gs W B).K (Str.ofString "square") (.ref t) Q ⟨l, H⟩ := by
  first
    | (refine an10 (h.obj) fun dx es n tk a b c d e f => ?_)
    | (refine ex1 (h.obj) fun dx hh1 => ?_; refine an9 hh1 fun es n tk a b c d e f => ?_; clear hh1)
    | (refine ex2 (h.obj) fun dx es hh1 => ?_; refine an8 hh1 fun n tk a b c d e f => ?_; clear hh1)
    | (refine ex3 (h.obj) fun dx es n hh1 => ?_; refine an7 hh1 fun tk a b c d e f => ?_; clear hh1)
    | (refine ex4 (h.obj) fun dx es n tk hh1 => ?_; refine an6 hh1 fun a b c d e f => ?_; clear hh1)
    | (refine ex5 (h.obj) fun dx es n tk a hh1 => ?_; refine an5 hh1 fun b c d e f => ?_; clear hh1)
    | (refine ex6 (h.obj) fun dx es n tk a b hh1 => ?_; refine an4 hh1 fun c d e f => ?_; clear hh1)
    | obtain ⟨dx, es, n, tk, a, b, c, d, e, f⟩ := h.obj
  exact ⟨190, dx, es, n, _, _, a, b, mont_st.1, mont_st.2.1, mont_st.2.2.2.2.2, f, rfl, VR.r, k⟩
theorem redc_ok {a t : Addr} {x m z : Nat} {rm ro rs : Addr} {mi : Nat} (hw : 2 ≤ w ∧ w ≤ 9) (ha : H.rd a = some (LN (dg (2 ^ w) x))) (hM : IsMont H t w m rm ro rs mi) (hx : x < m * (2 ^ w) ^ (dg (2 ^ w) m).length) (hz : x % m = z * (2 ^ w) ^ (dg (2 ^ w) m).length % m)
    (k : RetO H (dg (2 ^ w) (z % m)) Q) : callP (gs W B) (D + 4) 229 [.ref a, .ref t, .int (w : Int)] H Q := by
  obtain ⟨b1, b2⟩ := pw hw
  refine' callP_def0 (Wb := _) (hK := rfl) rfl rfl rfl rfl rfl [Str.ofString "a", Str.ofString "told", Str.ofString "w"] [Str.ofString "m", Str.ofString "size", Str.ofString "rest", Str.ofString "mask", Str.ofString "at"] (by decide) rfl rfl rfl ?hb ?hw [some (.ref a), some (.ref t), some (.int (w : Int)), none, none, none, none, none] rfl ?hv
  case hb => exact fun vs hv => vrs_all (P := fun vs => bindArgs _ ⟨vs, []⟩ = pure (List.zip _ vs)) hv (fun _ _ _ => rfl)
  case hw =>
    intro A L
    simp only [List.cons_append, List.nil_append]
    repeat' walk_at "tr"
  case' hv => skip
  repeat' walk_at "vc"
  refine mont_modulus hM ?_
  have hm := hM.hm
  have m0 := hM.m0
  have hml : (dg (2 ^ w) m).length ≤ 40 := dg_len_small (by (first | lia | omega)) hM.small
  have hsm := hM.small
  have hB : (2 ^ w) ^ (dg (2 ^ w) m).length ≤ 512 * 2 ^ 40 := by
    have h1 := dg_ge (b := 2 ^ w) (by (first | lia | omega)) m0
    have h2 : 0 < (dg (2 ^ w) m).length := List.length_pos_iff.mpr (dg_ne (by (first | lia | omega)) m0)
    rw [show (dg (2 ^ w) m).length = ((dg (2 ^ w) m).length - 1) + 1 by (first | lia | omega), Nat.pow_succ, Nat.mul_comm]
    exact Nat.mul_le_mul b2 (by (first | lia | omega))
  have hB0 : 0 < (2 ^ w) ^ (dg (2 ^ w) m).length := Nat.pow_pos (by (first | lia | omega))
  have hmB : m * (2 ^ w) ^ (dg (2 ^ w) m).length < 2 ^ 200 := by
    have := Nat.mul_le_mul (Nat.le_of_lt hsm) hB
    (first | lia | omega)
  have hx2 : x < 2 ^ 200 := by (first | lia | omega)
  have hxl := dg_len_small (b := 2 ^ w) (by (first | lia | omega)) hx2
  have hxl2 : (dg (2 ^ w) x).length ≤ 2 * (dg (2 ^ w) m).length := by
    rw [dg_len_le (by (first | lia | omega))]
    have h1 := dg_lt (b := 2 ^ w) (by (first | lia | omega)) m
    have h2 := Nat.mul_lt_mul_of_pos_right h1 hB0
    rw [Nat.two_mul, Nat.pow_add]
    (first | lia | omega)
  repeat' walk_at "vc"
  · simp; (first | lia | omega)
  rename_i r0 H1 s1 n1 e1 o1 H2 s2 g q0 H3 s3 n3 e3 o3 q1 H4 s4 n4 e4 o4 q2 H5 s5 n5 e5 o5
  have sA := ((s1.trans s2).trans s3).trans s4
  generalize hn : (dg (2 ^ w) m).length = n at *
  refine vq_forU (fun j σ => ∃ H' rs' o qv, σ = ⟨[some (.ref a), some (.ref t), some (.int (w : Int)), some (.ref rm), some (.int (n : Int)), some (.ref q2), some (.int ((1 * 2 ^ w - 1 : Nat) : Int)), o], H'⟩ ∧ H4.Sub H' ∧ H'.rd q2 = some (LN rs') ∧ H'.own q2 ∧ Dig (2 ^ w) rs' ∧ rs'.length = 2 * n + 1 ∧ num (2 ^ w) rs' = x + m * qv ∧ num (2 ^ w) rs' % (2 ^ w) ^ j = 0 ∧ qv < (2 ^ w) ^ j)
    ⟨H5, _, _, 0, rfl, s5, e5, o5, (Dig_dg (by (first | lia | omega)) x).append (.rep (by (first | lia | omega))), by simp; (first | lia | omega), by rw [num_append, num_rep, num_dg (by (first | lia | omega))]; simp, by rw [Nat.pow_zero, Nat.mod_one], by simp⟩ ?_ ?_
  · intro j σ hj hh0
    first
      | (refine ex4 hh0 fun H' rs' o qv hh1 => ?_; refine an9 hh1 fun hr0 hs' hr' ho' hD hlr hV hdv hq => ?_; clear hh1 hh0; subst hr0)
      | (refine an13 hh0 fun H' rs' o qv hr0 hs' hr' ho' hD hlr hV hdv hq => ?_; clear hh0; subst hr0)
      | (refine ex1 hh0 fun H' hh1 => ?_; refine an12 hh1 fun rs' o qv hr0 hs' hr' ho' hD hlr hV hdv hq => ?_; clear hh1 hh0; subst hr0)
      | (refine ex2 hh0 fun H' rs' hh1 => ?_; refine an11 hh1 fun o qv hr0 hs' hr' ho' hD hlr hV hdv hq => ?_; clear hh1 hh0; subst hr0)
      | (refine ex3 hh0 fun H' rs' o hh1 => ?_; refine an10 hh1 fun qv hr0 hs' hr' ho' hD hlr hV hdv hq => ?_; clear hh1 hh0; subst hr0)
      | obtain ⟨H', rs', o, qv, rfl, hs', hr', ho', hD, hlr, hV, hdv, hq⟩ := hh0
    simp only [Nat.zero_add]
    have hM' := hM.mono (sA.trans hs').sb
    have hml' := hM.mil
    have g1 := num_getD (b := 2 ^ w) (by (first | lia | omega)) hD j
    have g2 := hD.getD (by (first | lia | omega)) j
    repeat' walk_at "vc"
    refine mont_minus hM' ?_
    repeat' walk_at "vc"
    have hl1 : rs'.getD j 0 * mi % 2 ^ w < 2 ^ w := Nat.mod_lt _ (by (first | lia | omega))
    have hst := redc_step (b := 2 ^ w) (m := m) (mi := mi) (j := j) (by (first | lia | omega)) hM.hmi hdv (rs'.getD j 0 * mi % 2 ^ w) (by rw [g1])
    generalize rs'.getD j 0 * mi % 2 ^ w = lb at *
    have hq' : qv + (2 ^ w) ^ j * lb < (2 ^ w) ^ (j + 1) := by
      rw [Nat.pow_succ]
      have := Nat.mul_le_mul_left ((2 ^ w) ^ j) (Nat.succ_le_of_lt hl1)
      rw [Nat.mul_succ] at this
      (first | lia | omega)
    have hV' : num (2 ^ w) rs' + (2 ^ w) ^ j * (m * lb) = x + m * (qv + (2 ^ w) ^ j * lb) := by
      rw [hV, Nat.mul_add]; grind
    have hmn : m < (2 ^ w) ^ n := hn ▸ dg_lt (by (first | lia | omega)) m
    have hroom : num (2 ^ w) rs' + (2 ^ w) ^ j * (m * lb) < (2 ^ w) ^ rs'.length := by
      rw [hV', hlr]
      have h1 : qv + (2 ^ w) ^ j * lb < (2 ^ w) ^ n := Nat.lt_of_lt_of_le hq' (Nat.pow_le_pow_right (by (first | lia | omega)) hj)
      have h2 := Nat.mul_le_mul_left m (Nat.le_of_lt h1)
      have h3 := Nat.mul_lt_mul_of_pos_right hmn hB0
      have h4 : (2 ^ w) ^ (2 * n + 1) = (2 ^ w) ^ n * (2 ^ w) ^ n * 2 ^ w := by rw [Nat.pow_succ, Nat.two_mul, Nat.pow_add]
      have h5 : (2 ^ w) ^ n * (2 ^ w) ^ n * 4 ≤ (2 ^ w) ^ n * (2 ^ w) ^ n * 2 ^ w := Nat.mul_le_mul_left _ b1
      (first | lia | omega)
    have nd := num_dg (b := 2 ^ w) (by (first | lia | omega)) m
    have hne : q2 ≠ rm := fun z => by
      have := (sA.get hm); rw [← z, n5] at this; cases this
    refine add_row_ok hw hr' ho' hne hM'.hm hD (Dig_dg (by (first | lia | omega)) m) (by (first | lia | omega)) hl1 (by rw [nd]; exact hroom) (by rw [hn]; (first | lia | omega)) fun H6 rs6 b6 hr6 ho6 hD6 hl6 hV6 => ?_
    repeat' walk_at "vc"
    rw [nd] at hV6
    refine ⟨H6, rs6, _, qv + (2 ^ w) ^ j * lb, rfl, hs'.bothBut n5 b6, hr6, ho6, hD6, by (first | lia | omega), by rw [hV6, hV'], by rw [hV6]; exact hst, hq'⟩
  · intro σ hh0
    first
      | (refine ex4 hh0 fun H' rs' o qv hh1 => ?_; refine an9 hh1 fun hr0 hs' hr' ho' hD hlr hV hdv hq => ?_; clear hh1 hh0; subst hr0)
      | (refine an13 hh0 fun H' rs' o qv hr0 hs' hr' ho' hD hlr hV hdv hq => ?_; clear hh0; subst hr0)
      | (refine ex1 hh0 fun H' hh1 => ?_; refine an12 hh1 fun rs' o qv hr0 hs' hr' ho' hD hlr hV hdv hq => ?_; clear hh1 hh0; subst hr0)
      | (refine ex2 hh0 fun H' rs' hh1 => ?_; refine an11 hh1 fun o qv hr0 hs' hr' ho' hD hlr hV hdv hq => ?_; clear hh1 hh0; subst hr0)
      | (refine ex3 hh0 fun H' rs' o hh1 => ?_; refine an10 hh1 fun qv hr0 hs' hr' ho' hD hlr hV hdv hq => ?_; clear hh1 hh0; subst hr0)
      | obtain ⟨H', rs', o, qv, rfl, hs', hr', ho', hD, hlr, hV, hdv, hq⟩ := hh0
    have hm' := (sA.trans hs').get hm
    repeat' walk_at "vc"
    · simp; (first | lia | omega)
    · rename_i q6 H6 s6 n6 e6 o6 r7 H7 s7 n7 e7 o7
      have hVR : num (2 ^ w) rs' / (2 ^ w) ^ n < 2 * m := by
        rw [Nat.div_lt_iff_lt_mul hB0, hV]
        have h1 := Nat.mul_lt_mul_of_pos_left hq m0
        have h2 : 2 * m * (2 ^ w) ^ n = m * (2 ^ w) ^ n + m * (2 ^ w) ^ n := by rw [Nat.mul_assoc, Nat.two_mul]
        (first | lia | omega)
      rw [strip_eq (by (first | lia | omega)) (hD.drop _), num_drop (by (first | lia | omega)) hD] at e7
      refine taken_once_ok hw e7 ((s6.trans s7).get hm') hVR (by (first | lia | omega)) fun r8 H8 s8 e8 => ?_
      have hfin := redc_end (R := (2 ^ w) ^ n) m0 hB0 (by rw [← Nat.pow_mul]; exact coprime_pow hM.odd) hV hdv hz
      rw [hfin] at e8
      exact k.done ((sA.trans hs').trans ((s6.trans s7).trans s8)).sb e8
end
section
local macro_rules | `(tactic| walk_at "ct") => `(tactic| with_reducible refine' doubled_rest_ok (by assumption) (by walk_at "rd") (by walk_at "rd") ?_ ?_ ?_)
local macro_rules | `(tactic| walk_at "ct") => `(tactic| with_reducible refine' taken_once_ok (by assumption) (by walk_at "rd") (by walk_at "rd") ?_ ?_ ?_)
variable {W : World} {B : Heap} {D : Nat} {H : Hp} {Q : AV → Hp → Prop} {w : Nat}
theorem lt_R {w m : Nat} (hw : 2 ≤ w ∧ w ≤ 9) : m < (2 ^ w) ^ (dg (2 ^ w) m).length := dg_lt (by have := (pw hw).1; (first | lia | omega)) m
theorem mont_mul_ok {a c t : Addr} {x y m z : Nat} {rm ro rs : Addr} {mi : Nat} (hw : 2 ≤ w ∧ w ≤ 9) (ha : H.rd a = some (LN (dg (2 ^ w) x))) (hc : H.rd c = some (LN (dg (2 ^ w) y))) (hM : IsMont H t w m rm ro rs mi) (hx : x < m) (hy : y < m) (hz : x * y % m = z * (2 ^ w) ^ (dg (2 ^ w) m).length % m)
    (k : RetO H (dg (2 ^ w) (z % m)) Q) : callP (gs W B) (D + 5) 250 [.ref a, .ref c, .ref t, .int (w : Int), .ref 374] H Q := by
  have hsm := hM.small
  refine' callP_def0 (Wb := _) (hK := rfl) rfl rfl rfl rfl rfl [Str.ofString "a", Str.ofString "b", Str.ofString "told", Str.ofString "w", Str.ofString "mul"] [] (by decide) rfl rfl rfl ?hb ?hw [some (.ref a), some (.ref c), some (.ref t), some (.int (w : Int)), some (.ref 374)] rfl ?hv
  case hb => exact fun vs hv => vrs_all (P := fun vs => bindArgs _ ⟨vs, []⟩ = pure (List.zip _ vs)) hv (fun _ _ _ _ _ => rfl)
  case hw =>
    intro A L
    simp only [List.cons_append, List.nil_append]
    repeat' walk_at "tr"
  case' hv => skip
  repeat' walk_at "vc"
  rename_i r1 H1 s1 n1 e1 o1
  refine redc_ok (D := D) hw e1 (hM.mono s1.sb) ?_ hz fun r2 H2 s2 e2 => ?_
  · exact Nat.mul_lt_mul'' hx (Nat.lt_trans hy (lt_R hw))
  · exact k.done (s1.trans s2).sb e2
theorem from_mont_ok {a t : Addr} {x m z : Nat} {rm ro rs : Addr} {mi : Nat} (hw : 2 ≤ w ∧ w ≤ 9) (ha : H.rd a = some (LN (dg (2 ^ w) x))) (hM : IsMont H t w m rm ro rs mi) (hx : x < m) (hz : x % m = z * (2 ^ w) ^ (dg (2 ^ w) m).length % m)
    (k : RetO H (dg (2 ^ w) (z % m)) Q) : callP (gs W B) (D + 5) 243 [.ref a, .ref t, .int (w : Int)] H Q := by
  refine' callP_def0 (Wb := _) (hK := rfl) rfl rfl rfl rfl rfl [Str.ofString "a", Str.ofString "told", Str.ofString "w"] [] (by decide) rfl rfl rfl ?hb ?hw [some (.ref a), some (.ref t), some (.int (w : Int))] rfl ?hv
  case hb => exact fun vs hv => vrs_all (P := fun vs => bindArgs _ ⟨vs, []⟩ = pure (List.zip _ vs)) hv (fun _ _ _ => rfl)
  case hw =>
    intro A L
    simp only [List.cons_append, List.nil_append]
    repeat' walk_at "tr"
  case' hv => skip
  repeat' walk_at "vc"
  refine redc_ok (D := D) hw ha hM ?_ hz fun r2 H2 s2 e2 => ?_
  · have := Nat.mul_le_mul_left m (Nat.pow_pos (n := (dg (2 ^ w) m).length) (Nat.pow_pos (n := w) (show 0 < 2 by decide)))
    (first | lia | omega)
  · exact k.done s2.sb e2
theorem to_mont_ok {a t : Addr} {x m : Nat} {rm ro rs : Addr} {mi : Nat} (hw : 2 ≤ w ∧ w ≤ 9) (ha : H.rd a = some (LN (dg (2 ^ w) x))) (hM : IsMont H t w m rm ro rs mi) (hx : x < m)
    (k : RetO H (dg (2 ^ w) (x * (2 ^ w) ^ (dg (2 ^ w) m).length % m)) Q) : callP (gs W B) (D + 5) 236 [.ref a, .ref t, .int (w : Int), .ref 374] H Q := by
  have hsm := hM.small
  have m0 := hM.m0
  refine' callP_def0 (Wb := _) (hK := rfl) rfl rfl rfl rfl rfl [Str.ofString "a", Str.ofString "told", Str.ofString "w", Str.ofString "mul"] [] (by decide) rfl rfl rfl ?hb ?hw [some (.ref a), some (.ref t), some (.int (w : Int)), some (.ref 374)] rfl ?hv
  case hb => exact fun vs hv => vrs_all (P := fun vs => bindArgs _ ⟨vs, []⟩ = pure (List.zip _ vs)) hv (fun _ _ _ _ => rfl)
  case hw =>
    intro A L
    simp only [List.cons_append, List.nil_append]
    repeat' walk_at "tr"
  case' hv => skip
  repeat' walk_at "vc"
  refine mont_modulus hM ?_
  have hm := hM.hm
  repeat' walk_at "vc"
  rename_i H1 s1 g
  refine mont_square (hM.mono s1.sb) ?_
  have hsq := s1.get hM.hs
  have hlt : (2 ^ w) ^ (dg (2 ^ w) m).length * (2 ^ w) ^ (dg (2 ^ w) m).length % m < m := Nat.mod_lt _ m0
  repeat' walk_at "vc"
  rename_i r2 H2 s2 n2 e2 o2
  refine redc_ok (D := D) hw e2 (hM.mono (s1.trans s2).sb) ?_ (z := x * (2 ^ w) ^ (dg (2 ^ w) m).length) ?_ fun r3 H3 s3 e3 => ?_
  · exact Nat.mul_lt_mul'' hx (Nat.lt_trans hlt (lt_R hw))
  · rw [Nat.mul_mod, Nat.mod_mod, ← Nat.mul_mod, Nat.mul_assoc]
  · exact k.done ((s1.trans s2).trans s3).sb e3
end
section
local macro_rules | `(tactic| walk_at "ct") => `(tactic| with_reducible refine' doubled_rest_ok (by assumption) (by walk_at "rd") (by walk_at "rd") ?_ ?_ ?_)
local macro_rules | `(tactic| walk_at "ct") => `(tactic| with_reducible refine' taken_once_ok (by assumption) (by walk_at "rd") (by walk_at "rd") ?_ ?_ ?_)
variable {W : World} {B : Heap} {D : Nat} {H : Hp} {Q : AV → Hp → Prop} {w : Nat}
theorem putL_le {name : Str} {hsh : Int} {key v : Value} {es : List DictEntry} {n : Nat} (h : es.length ≤ n) : (putL name hsh key v es).length ≤ n + 1 := Nat.le_trans (putL_len _ _ _ _ _) (Nat.succ_le_succ h)
theorem init_ok {x dx rm ro rs : Addr} {mi : Nat} (h1 : H.rd x = some (.raw (instObj 190 dx))) (h2 : H.rd dx = some (.raw (dictOf [] 0))) (h3 : H.own dx) (hx : x ≠ dx)
    (k : ∀ H' es n tk, SubBut dx H H' → H'.rd x = some (.raw (instObj 190 dx)) → H'.rd dx = some (.raw (dictOf es n)) → getL "modulus" es = some (some (.ref rm)) → getL "minus" es = some (some (.int ((mi : Nat) : Int) tk)) → getL "one" es = some (some (.ref ro)) → getL "square" es = some (some (.ref rs)) → Q .none H') : callP (gs W B) (D + 1) 187 [.ref x, .ref rm, .int (mi : Int), .ref ro, .ref rs] H Q := by
  refine' callP_def0 (Wb := _) (hK := rfl) rfl rfl rfl rfl rfl [Str.ofString "self", Str.ofString "modulus", Str.ofString "minus", Str.ofString "one", Str.ofString "square"] [] (by decide) rfl rfl rfl ?hb ?hw [some (.ref x), some (.ref rm), some (.int (mi : Int)), some (.ref ro), some (.ref rs)] rfl ?hv
  case hb => exact fun vs hv => vrs_all (P := fun vs => bindArgs _ ⟨vs, []⟩ = pure (List.zip _ vs)) hv (fun _ _ _ _ _ => rfl)
  case hw =>
    intro A L
    simp only [List.cons_append, List.nil_append]
    repeat' walk_at "tr"
  case' hv => skip
  repeat' walk_at "vc"
  first | refine exI7 190 dx _ _ h1 h2 h3 ⟨rfl, rfl, rfl, rfl, rfl, by simp, fun u t1 H1 hu T1 => ?_⟩ | refine ⟨190, dx, _, _, h1, h2, h3, rfl, rfl, rfl, rfl, rfl, by simp, fun u t1 H1 hu T1 => ?_⟩
  cases hu
  repeat' walk_at "vc"
  refine ⟨190, dx, _, _, T1.keep hx h1, T1.at_, (T1.own _).mpr h3, rfl, rfl, rfl, rfl, rfl, Nat.le_trans (putL_le (n := 0) (Nat.le_refl _)) (by decide), fun u t2 H2 hu T2 => ?_⟩
  obtain ⟨tk, rfl⟩ := hu
  repeat' walk_at "vc"
  refine ⟨190, dx, _, _, T2.keep hx (T1.keep hx h1), T2.at_, (T2.own _).mpr ((T1.own _).mpr h3), rfl, rfl, rfl, rfl, rfl, Nat.le_trans (putL_le (putL_le (n := 0) (Nat.le_refl _))) (by decide), fun u t3 H3 hu T3 => ?_⟩
  cases hu
  repeat' walk_at "vc"
  refine ⟨190, dx, _, _, T3.keep hx (T2.keep hx (T1.keep hx h1)), T3.at_, (T3.own _).mpr ((T2.own _).mpr ((T1.own _).mpr h3)), rfl, rfl, rfl, rfl, rfl, Nat.le_trans (putL_le (putL_le (putL_le (n := 0) (Nat.le_refl _)))) (by decide), fun u t4 H4 hu T4 => ?_⟩
  cases hu
  repeat' walk_at "vc"
  exact k _ _ _ tk (back_but (fun a ao n e => T4.keep n (T3.keep n (T2.keep n (T1.keep n e)))) h2) (T4.keep hx (T3.keep hx (T2.keep hx (T1.keep hx h1)))) T4.at_ rfl rfl rfl rfl
theorem mont_new_ok {rm ro rs : Addr} {mi : Nat} (k : ∀ t H', H.Sub H' → (∃ dx es n tk, H'.rd t = some (.raw (instObj 190 dx)) ∧ H'.rd dx = some (.raw (dictOf es n)) ∧ getL "modulus" es = some (some (.ref rm)) ∧ getL "minus" es = some (some (.int ((mi : Nat) : Int) tk)) ∧ getL "one" es = some (some (.ref ro)) ∧ getL "square" es = some (some (.ref rs))) → Q (.ref t) H') :
    callP (gs W B) (D + 3) 190 [.ref rm, .int (mi : Int), .ref ro, .ref rs] H Q :=
  callP_make (D := D + 1) (fI := 187) rfl rfl rfl fun x dx H1 s1 nx ndx hne h1 h2 ho => init_ok h1 h2 ho hne fun H' es n tk b e1 e2 g1 g2 g3 g4 => ⟨rfl, k x H' (s1.bothBut ndx b) ⟨dx, es, n, tk, e1, e2, g1, g2, g3, g4⟩⟩
end
section
local macro_rules | `(tactic| walk_at "ct") => `(tactic| with_reducible refine' doubled_rest_ok (by assumption) (by walk_at "rd") (by walk_at "rd") ?_ ?_ ?_)
local macro_rules | `(tactic| walk_at "ct") => `(tactic| with_reducible refine' taken_once_ok (by assumption) (by walk_at "rd") (by walk_at "rd") ?_ ?_ ?_)
local macro_rules | `(tactic| walk_at "ct") => `(tactic| with_reducible refine' inverse_limb_ok (by assumption) ?_ ?_ ?_)
variable {W : World} {B : Heap} {D : Nat} {H : Hp} {Q : AV → Hp → Prop} {w : Nat}
theorem mont_make_ok {a : Addr} {m : Nat} (hw : 2 ≤ w ∧ w ≤ 9) (ha : H.rd a = some (LN (dg (2 ^ w) m))) (hodd : m % 2 = 1) (hm : m < 2 ^ 40)
    (k : ∀ t ro rs mi H', H.Sub H' → IsMont H' t w m a ro rs mi → Q (.ref t) H') : callP (gs W B) (D + 4) 208 [.ref a, .int (w : Int)] H Q := by
  obtain ⟨b1, b2⟩ := pw hw
  have m0 : 0 < m := by (first | lia | omega)
  have hml := dg_len_small (b := 2 ^ w) (by (first | lia | omega)) hm
  refine' callP_def0 (Wb := _) (hK := rfl) rfl rfl rfl rfl rfl [Str.ofString "m", Str.ofString "w"] [Str.ofString "one", Str.ofString "turn", Str.ofString "square"] (by decide) rfl rfl rfl ?hb ?hw [some (.ref a), some (.int (w : Int)), none, none, none] rfl ?hv
  case hb => exact fun vs hv => vrs_all (P := fun vs => bindArgs _ ⟨vs, []⟩ = pure (List.zip _ vs)) hv (fun _ _ => rfl)
  case hw =>
    intro A L
    simp only [List.cons_append, List.nil_append]
    repeat' walk_at "tr"
  case' hv => skip
  refine vc_seq ?_
  repeat' walk_at "v1"
  · rename_i g; (first | lia | omega)
  rename_i H1 s1 g
  refine vc_seq (vc_iteCut (fun v σ => ∃ r H', v = .ref r ∧ σ = ⟨[some (.ref a), some (.int (w : Int)), none, none, none], H'⟩ ∧ H.Sub H' ∧ H'.rd r = some (LN (dg (2 ^ w) (1 % m)))) ?_ ?_)
  · intro X hX
    have ha1 := s1.get ha
    repeat' walk_at "vc"
    · rename_i q2 H2 s2 n2 e2 o2 g2 q3 H3 s3 n3 e3 o3
      rw [dg_is_one (by (first | lia | omega))] at g2
      exact hX _ _ ⟨_, _, rfl, rfl, (s1.trans s2).trans s3, by rw [e3, g2, Nat.mod_self, dg_zero]⟩
    · rename_i q2 H2 s2 n2 e2 o2 g2 q3 H3 s3 n3 e3 o3
      rw [dg_is_one (by (first | lia | omega))] at g2
      exact hX _ _ ⟨_, _, rfl, rfl, (s1.trans s2).trans s3, by rw [e3, Nat.mod_eq_of_lt (by (first | lia | omega)), dg_one (by (first | lia | omega))]⟩
  intro v σ hh0
  first
    | (refine ex2 hh0 fun r H2 hh1 => ?_; refine an4 hh1 fun hr0 hr1 s2 e2 => ?_; clear hh1 hh0; subst hr0; subst hr1)
    | (refine an6 hh0 fun r H2 hr0 hr1 s2 e2 => ?_; clear hh0; subst hr0; subst hr1)
    | (refine ex1 hh0 fun r hh1 => ?_; refine an5 hh1 fun H2 hr0 hr1 s2 e2 => ?_; clear hh1 hh0; subst hr0; subst hr1)
    | obtain ⟨r, H2, rfl, rfl, s2, e2⟩ := hh0
  have hlw : (dg (2 ^ w) m).length * w ≤ 40 * 9 := Nat.mul_le_mul hml hw.2
  have hR : 2 ^ ((dg (2 ^ w) m).length * w) = (2 ^ w) ^ (dg (2 ^ w) m).length := by rw [Nat.mul_comm, Nat.pow_mul]
  have hstep : ∀ c j, 2 * (c * 2 ^ j % m) % m = c * 2 ^ (j + 1) % m := fun c j => by
    rw [Nat.mul_mod, Nat.mod_mod, ← Nat.mul_mod, Nat.pow_succ]; congr 1; grind
  have ha2 := s2.get ha
  repeat' walk_at "vc"
  refine vq_forU (fun j σ => ∃ r H' o, σ = ⟨[some (.ref a), some (.int (w : Int)), some (.ref r), o, none], H'⟩ ∧ H.Sub H' ∧ H'.rd r = some (LN (dg (2 ^ w) (1 * 2 ^ j % m)))) ⟨r, H2, _, rfl, s2, e2⟩ ?_ ?_
  · intro j σ hj hh0
    first
      | (refine ex3 hh0 fun r H3 o hh1 => ?_; refine an3 hh1 fun hr0 s3 e3 => ?_; clear hh1 hh0; subst hr0)
      | (refine an6 hh0 fun r H3 o hr0 s3 e3 => ?_; clear hh0; subst hr0)
      | (refine ex1 hh0 fun r hh1 => ?_; refine an5 hh1 fun H3 o hr0 s3 e3 => ?_; clear hh1 hh0; subst hr0)
      | (refine ex2 hh0 fun r H3 hh1 => ?_; refine an4 hh1 fun o hr0 s3 e3 => ?_; clear hh1 hh0; subst hr0)
      | obtain ⟨r, H3, o, rfl, s3, e3⟩ := hh0
    have ha3 := s3.get ha
    have hlt : 1 * 2 ^ j % m < m := Nat.mod_lt _ m0
    repeat' walk_at "vc"
    rename_i r4 H4 s4 e4
    rw [hstep] at e4
    first | exact exI3 r4 H4 _ ⟨rfl, s3.trans s4, e4⟩ | exact ⟨r4, H4, _, rfl, s3.trans s4, e4⟩
  intro σ hh0
  first
    | (refine ex3 hh0 fun r H3 o hh1 => ?_; refine an3 hh1 fun hr0 s3 e3 => ?_; clear hh1 hh0; subst hr0)
    | (refine an6 hh0 fun r H3 o hr0 s3 e3 => ?_; clear hh0; subst hr0)
    | (refine ex1 hh0 fun r hh1 => ?_; refine an5 hh1 fun H3 o hr0 s3 e3 => ?_; clear hh1 hh0; subst hr0)
    | (refine ex2 hh0 fun r H3 hh1 => ?_; refine an4 hh1 fun o hr0 s3 e3 => ?_; clear hh1 hh0; subst hr0)
    | obtain ⟨r, H3, o, rfl, s3, e3⟩ := hh0
  rw [Nat.one_mul, hR] at e3
  have ha3 := s3.get ha
  repeat' walk_at "vc"
  refine vq_forU (fun j σ => ∃ r2 H' o, σ = ⟨[some (.ref a), some (.int (w : Int)), some (.ref r), o, some (.ref r2)], H'⟩ ∧ H3.Sub H' ∧ H'.rd r2 = some (LN (dg (2 ^ w) ((2 ^ w) ^ (dg (2 ^ w) m).length * 2 ^ j % m)))) ⟨r, H3, _, rfl, .refl, by rw [Nat.pow_zero, Nat.mul_one]; exact e3⟩ ?_ ?_
  · intro j σ hj hh0
    first
      | (refine ex3 hh0 fun r2 H4 o hh1 => ?_; refine an3 hh1 fun hr0 s4 e4 => ?_; clear hh1 hh0; subst hr0)
      | (refine an6 hh0 fun r2 H4 o hr0 s4 e4 => ?_; clear hh0; subst hr0)
      | (refine ex1 hh0 fun r2 hh1 => ?_; refine an5 hh1 fun H4 o hr0 s4 e4 => ?_; clear hh1 hh0; subst hr0)
      | (refine ex2 hh0 fun r2 H4 hh1 => ?_; refine an4 hh1 fun o hr0 s4 e4 => ?_; clear hh1 hh0; subst hr0)
      | obtain ⟨r2, H4, o, rfl, s4, e4⟩ := hh0
    have ha4 := s4.get ha3
    have hlt : (2 ^ w) ^ (dg (2 ^ w) m).length * 2 ^ j % m < m := Nat.mod_lt _ m0
    repeat' walk_at "vc"
    rename_i r5 H5 s5 e5
    rw [hstep] at e5
    first | exact exI3 r5 H5 _ ⟨rfl, s4.trans s5, e5⟩ | exact ⟨r5, H5, _, rfl, s4.trans s5, e5⟩
  intro σ hh0
  first
    | (refine ex3 hh0 fun r2 H4 o hh1 => ?_; refine an3 hh1 fun hr0 s4 e4 => ?_; clear hh1 hh0; subst hr0)
    | (refine an6 hh0 fun r2 H4 o hr0 s4 e4 => ?_; clear hh0; subst hr0)
    | (refine ex1 hh0 fun r2 hh1 => ?_; refine an5 hh1 fun H4 o hr0 s4 e4 => ?_; clear hh1 hh0; subst hr0)
    | (refine ex2 hh0 fun r2 H4 hh1 => ?_; refine an4 hh1 fun o hr0 s4 e4 => ?_; clear hh1 hh0; subst hr0)
    | obtain ⟨r2, H4, o, rfl, s4, e4⟩ := hh0
  rw [hR] at e4
  have ha4 := s4.get ha3
  repeat' walk_at "vc"
  refine ⟨⟨190, rfl, rfl⟩, ?_⟩
  have g0 := dg_getD (b := 2 ^ w) (by (first | lia | omega)) m 0
  have g1 := (Dig_dg (b := 2 ^ w) (by (first | lia | omega)) m).getD (by (first | lia | omega)) 0
  have g2 := even_dg (x := m) hw.1
  repeat' walk_at "vc"
  · exact List.length_pos_iff.mpr (dg_ne (by (first | lia | omega)) m0)
  · (first | lia | omega)
  intro r3 H5 s5 hr3 hinv
  repeat' walk_at "vc"
  obtain ⟨k1, k2⟩ := neg_inv (by (first | lia | omega)) (by rw [g0, Nat.pow_zero, Nat.div_one]) hinv
  refine mont_new_ok (D := D) fun t H6 s6 ho6 => ?_
  refine k t r r2 _ _ (Hp.back_sub (((s3.trans s4).trans s5).trans s6).sb) ⟨ho6, ?_, ?_, ?_, k2, k1, m0, hodd, hm⟩
  · exact (s5.trans s6).get ha4
  · exact ((s4.trans s5).trans s6).get e3
  · exact (s5.trans s6).get e4
end
section
variable {W : World} {B : Heap} {D : Nat} {H : Hp} {Q : AV → Hp → Prop} {w : Nat}
theorem complement_ok {a : Addr} {x n : Nat} (hw : 2 ≤ w ∧ w ≤ 9) (ha : H.rd a = some (LN (dg (2 ^ w) x))) (hx : x < (2 ^ w) ^ n) (hn : (2 ^ w) ^ n < 2 ^ 100) (k : RetL H (dg (2 ^ w) (((2 ^ w) ^ n - x) % (2 ^ w) ^ n)) Q) : callP (gs W B) (D + 3) 166 [.ref a, .int (n : Int), .int (w : Int)] H Q := by
  obtain ⟨b1, b2⟩ := pw hw
  have hl := dg_len_small (b := 2 ^ w) (k := 200) (by (first | lia | omega)) (show x < 2 ^ 200 by (first | lia | omega))
  have hn1 : n ≤ 100 := by
    rcases Nat.lt_or_ge 100 n with z | z
    · have h1 : 2 ^ n ≤ (2 ^ w) ^ n := Nat.pow_le_pow_left (by (first | lia | omega)) n
      have h2 : 2 ^ 100 ≤ 2 ^ n := Nat.pow_le_pow_right (by decide) (by (first | lia | omega))
      (first | lia | omega)
    · exact z
  refine' callP_defC (Wb := _) (hK := rfl) rfl rfl rfl rfl rfl [Str.ofString "a", Str.ofString "n", Str.ofString "w"] [Str.ofString "top", Str.ofString "turned"] (by decide) rfl ?hkind (by decide) ?hb ?hw [some (.ref a), some (.int (n : Int)), some (.int (w : Int)), none, none] rfl ?hv
  case hkind =>
    intro n y hy
    simp only [List.mem_cons, List.not_mem_nil, or_false] at hy
    rcases hy with rfl | rfl | rfl <;> first | exact Or.inl rfl | exact Or.inr ⟨rfl, rfl⟩
  case hb => exact fun vs hv => vrs_all (P := fun vs => bindArgs _ ⟨vs, []⟩ = pure (List.zip _ vs)) hv (fun _ _ _ => rfl)
  case' hw =>
    intro A L
    simp only [List.cons_append, List.nil_append]
  case' hv => skip
  case hw =>
    refine' trb_cons ?s1 (trb_cons (tr_asgcomp (cl := [(Str.ofString "top", L + 2), (Str.ofString "a", L + 1)]) (frs := [Str.ofString "a", Str.ofString "top"]) (fi := [0, 3]) ?K ?hI ?he (by walk_at "lk") (by with_unfolding_all walk_at "sto") ?hsw) (trb_cons ?s3 trb_nil))
    case s1 => repeat' walk_at "tr"
    case hI => repeat' walk_at "tr"
    case s3 => repeat' walk_at "tr"
    case hsw => rfl
    case K =>
      refine ⟨rfl, by decide, rfl, by decide, rfl, ?_, ?_, ?_, ?_, rfl, by decide, ?_⟩
      · intro y c hm
        simp only [List.mem_cons, List.not_mem_nil, or_false, Prod.mk.injEq] at hm
        rcases hm with ⟨rfl, rfl⟩ | ⟨rfl, rfl⟩ <;> exact ⟨rfl, by decide⟩
      · simp
      · intro C y hy
        simp only [List.mem_cons, List.not_mem_nil, or_false] at hy
        rcases hy with rfl | rfl <;> exact ⟨.inl rfl, rfl⟩
      · intro k y hk
        match k, hk with
        | 0, hk => cases hk; exact ⟨_, rfl, rfl⟩
        | 1, hk => cases hk; exact ⟨_, rfl, rfl⟩
      · intro y hy
        simp only [List.mem_cons, List.not_mem_nil, or_false] at hy
        rcases hy with rfl | rfl <;> (show some NameKind.cell ≠ some NameKind.local; decide)
    case he =>
      intro C
      dsimp only [Fm.comp]
      repeat' walk_at "tr"
  case hv =>
    repeat' walk_at "vc"
    refine ⟨by simp [rgU_length]; (first | lia | omega), fun j acc H' => H' = H ∧ acc = (List.range j).map fun i => AV.int ((2 ^ w - 1 - x / (2 ^ w) ^ i % 2 ^ w : Nat) : Int), ⟨rfl, rfl⟩, ?_, ?_⟩
    · rintro j av acc H' hj hac ⟨rfl, rfl⟩
      obtain ⟨hj, rfl⟩ := rgU_get hj
      simp only [Nat.zero_add]
      have g1 := dg_getD (b := 2 ^ w) (by (first | lia | omega)) x j
      have g2 : x / (2 ^ w) ^ j % 2 ^ w < 2 ^ w := Nat.mod_lt _ (by (first | lia | omega))
      rw [show fvals [0, 3] [some (AV.ref a), some (AV.int (n : Int)), some (AV.int (w : Int)), some (AV.int ((1 * 2 ^ w - 1 : Nat) : Int)), none] = [some (.ref a), some (.int ((1 * 2 ^ w - 1 : Nat) : Int))] from rfl]
      repeat' walk_at "vc"
      · refine ⟨rfl, rfl, ?_⟩
        rw [List.range_succ, List.map_append, g1, Nat.one_mul]; rfl
      · refine ⟨rfl, rfl, ?_⟩
        rename_i g
        have : x / (2 ^ w) ^ j = 0 := by
          refine Nat.div_eq_of_lt (Nat.lt_of_lt_of_le (dg_lt (b := 2 ^ w) (by (first | lia | omega)) x) (Nat.pow_le_pow_right (by (first | lia | omega)) (by (first | lia | omega))))
        rw [List.range_succ, List.map_append, List.map_singleton, this, Nat.zero_mod, Nat.one_mul]
    · rintro acc H' hac ⟨rfl, rfl⟩
      rw [rgU_length]
      have hdig := Dig_compl (b := 2 ^ w) (by (first | lia | omega)) x n
      have hnum := num_compl (b := 2 ^ w) (by (first | lia | omega)) x n
      rw [Nat.mod_eq_of_lt hx] at hnum
      generalize hds : (List.range n).map (fun i => 2 ^ w - 1 - x / (2 ^ w) ^ i % 2 ^ w) = ds at hdig hnum
      have e : (List.range n).map (fun i => AV.int ((2 ^ w - 1 - x / (2 ^ w) ^ i % 2 ^ w : Nat) : Int)) = ds.map fun (d : Nat) => AV.int (d : Int) := by
        rw [← hds, List.map_map]; rfl
      rw [e]
      have hdl : ds.length = n := by rw [← hds]; simp
      show newK (LN ds) _ _
      repeat' walk_at "vc"
      rename_i q1 H1 s1 n1 e1 o1 r2 H2 s2 n2 e2 o2 q3 H3 s3 n3 e3 o3
      rw [strip_eq (by (first | lia | omega)) hdig] at e2
      rw [← dg_one (b := 2 ^ w) (by (first | lia | omega))] at e3
      have hy1 : num (2 ^ w) ds = (2 ^ w) ^ n - x - 1 := by (first | lia | omega)
      repeat' walk_at "vc"
      rename_i r4 H4 s4 n4 e4 o4 r5 H5 s5 n5 e5 o5
      rw [show num (2 ^ w) ds + 1 = (2 ^ w) ^ n - x by (first | lia | omega)] at e5
      exact k.done ((((s1.trans s2).trans s3).trans s4).trans s5).sb ((((s1.trans s2).trans s3).trans s4).sb.none' n5) e5 o5
end
section
local macro_rules | `(tactic| walk_at "ct") => `(tactic| with_reducible refine' inverse_limb_ok (by assumption) ?_ ?_ ?_)
local macro_rules | `(tactic| walk_at "ct") => `(tactic| with_reducible refine' complement_ok (by assumption) (by walk_at "rd") ?_ ?_ ?_)
variable {W : World} {B : Heap} {D : Nat} {H : Hp} {Q : AV → Hp → Prop} {w : Nat}
theorem inverse_low_ok {b : Addr} {x n : Nat} (hw : 2 ≤ w ∧ w ≤ 9) (hb : H.rd b = some (LN (dg (2 ^ w) x))) (hodd : x % 2 = 1) (hx : x < 2 ^ 60) (hn0 : 0 < n) (hn : (2 ^ w) ^ n < 2 ^ 50)
    (k : ∀ r f H', H.Sub H' → H'.rd r = some (LN (dg (2 ^ w) f)) → f < (2 ^ w) ^ n → x * f % (2 ^ w) ^ n = 1 → Q (.ref r) H') : callP (gs W B) (D + 4) 173 [.ref b, .int (n : Int), .int (w : Int), .ref 374] H Q := by
  obtain ⟨b1, b2⟩ := pw hw
  have hl := dg_len_small (b := 2 ^ w) (by (first | lia | omega)) hx
  have hl0 : 0 < (dg (2 ^ w) x).length := List.length_pos_iff.mpr (dg_ne (by (first | lia | omega)) (by (first | lia | omega)))
  have hn1 : n ≤ 50 := by
    rcases Nat.lt_or_ge 50 n with z | z
    · have h1 : 2 ^ n ≤ (2 ^ w) ^ n := Nat.pow_le_pow_left (by (first | lia | omega)) n
      have h2 : 2 ^ 50 ≤ 2 ^ n := Nat.pow_le_pow_right (by decide) (by (first | lia | omega))
      (first | lia | omega)
    · exact z
  have g0 := even_dg (x := x) hw.1
  have g1 := (Dig_dg (b := 2 ^ w) (by (first | lia | omega)) x).getD (by (first | lia | omega)) 0
  have g2 := dg_getD (b := 2 ^ w) (by (first | lia | omega)) x 0
  rw [Nat.pow_zero, Nat.div_one] at g2
  refine' callP_def0 (Wb := _) (hK := rfl) rfl rfl rfl rfl rfl [Str.ofString "b", Str.ofString "n", Str.ofString "w", Str.ofString "mul"] [Str.ofString "found", Str.ofString "size", Str.ofString "rest", Str.ofString "wanted"] (by decide) rfl rfl rfl ?hb ?hw [some (.ref b), some (.int (n : Int)), some (.int (w : Int)), some (.ref 374), none, none, none, none] rfl ?hv
  case hb => exact fun vs hv => vrs_all (P := fun vs => bindArgs _ ⟨vs, []⟩ = pure (List.zip _ vs)) hv (fun _ _ _ _ => rfl)
  case hw =>
    intro A L
    simp only [List.cons_append, List.nil_append]
    repeat' walk_at "tr"
  case' hv => skip
  repeat' walk_at "vc"
  · rename_i z _ _ _ _ _ _; (first | lia | omega)
  · (first | lia | omega)
  intro r0 H0 s0 hr0 hinv
  rw [g2] at hinv
  have hinv1 : x * r0 % (2 ^ w) ^ 1 = 1 := by
    rw [Nat.pow_one, ← hinv, Nat.mod_mul_mod]
  have hr00 : 0 < r0 := by
    rcases Nat.eq_zero_or_pos r0 with z | z
    · rw [z, Nat.mul_zero, Nat.zero_mod] at hinv; (first | lia | omega)
    · exact z
  have hone : dg (2 ^ w) r0 = [r0] := by rw [dg_pos (by (first | lia | omega)) hr00, Nat.mod_eq_of_lt hr0, Nat.div_eq_of_lt hr0, dg_zero]
  repeat' walk_at "vc"
  rename_i q1 H1 s1 n1 e1 o1
  rw [← hone] at e1
  refine vq_while (fun m σ => ∃ r f t H' o1 o2, m = n - t ∧ σ = ⟨[some (.ref b), some (.int (n : Int)), some (.int (w : Int)), some (.ref 374), some (.ref r), some (.int ((t : Nat) : Int)), o1, o2], H'⟩ ∧ H.Sub H' ∧ H'.rd r = some (LN (dg (2 ^ w) f)) ∧ f < (2 ^ w) ^ t ∧ x * f % (2 ^ w) ^ t = 1 ∧ 1 ≤ t ∧ t ≤ n) (n - 1)
    ⟨q1, r0, 1, H1, _, _, rfl, rfl, s0.trans s1, e1, by rw [Nat.pow_one]; exact hr0, hinv1, Nat.le_refl _, hn0⟩ ?_
  intro m σ hh0
  first
    | (refine ex6 hh0 fun r f t H2 u1 u2 hh1 => ?_; refine an8 hh1 fun hr0 hr1 s2 e2 hf hxf ht1 ht2 => ?_; clear hh1 hh0; subst hr0; subst hr1)
    | (refine an14 hh0 fun r f t H2 u1 u2 hr0 hr1 s2 e2 hf hxf ht1 ht2 => ?_; clear hh0; subst hr0; subst hr1)
    | (refine ex1 hh0 fun r hh1 => ?_; refine an13 hh1 fun f t H2 u1 u2 hr0 hr1 s2 e2 hf hxf ht1 ht2 => ?_; clear hh1 hh0; subst hr0; subst hr1)
    | (refine ex2 hh0 fun r f hh1 => ?_; refine an12 hh1 fun t H2 u1 u2 hr0 hr1 s2 e2 hf hxf ht1 ht2 => ?_; clear hh1 hh0; subst hr0; subst hr1)
    | (refine ex3 hh0 fun r f t hh1 => ?_; refine an11 hh1 fun H2 u1 u2 hr0 hr1 s2 e2 hf hxf ht1 ht2 => ?_; clear hh1 hh0; subst hr0; subst hr1)
    | (refine ex4 hh0 fun r f t H2 hh1 => ?_; refine an10 hh1 fun u1 u2 hr0 hr1 s2 e2 hf hxf ht1 ht2 => ?_; clear hh1 hh0; subst hr0; subst hr1)
    | (refine ex5 hh0 fun r f t H2 u1 hh1 => ?_; refine an9 hh1 fun u2 hr0 hr1 s2 e2 hf hxf ht1 ht2 => ?_; clear hh1 hh0; subst hr0; subst hr1)
    | obtain ⟨r, f, t, H2, u1, u2, rfl, rfl, s2, e2, hf, hxf, ht1, ht2⟩ := hh0
  have hb2 := s2.get hb
  have ht' : min (2 * t) n ≤ 2 * t := by (first | lia | omega)
  have hle : (2 ^ w) ^ min (2 * t) n ≤ (2 ^ w) ^ n := Nat.pow_le_pow_right (by (first | lia | omega)) (by (first | lia | omega))
  have hle2 : (2 ^ w) ^ t ≤ (2 ^ w) ^ n := Nat.pow_le_pow_right (by (first | lia | omega)) ht2
  have hge : 2 ^ w ≤ (2 ^ w) ^ min (2 * t) n := by
    have := Nat.pow_le_pow_right (n := 2 ^ w) (by (first | lia | omega)) (show 1 ≤ min (2 * t) n by (first | lia | omega))
    rwa [Nat.pow_one] at this
  have hstep := hensel_step (M' := (2 ^ w) ^ min (2 * t) n) (by (first | lia | omega)) (pow_sq ht') hxf
  have m1 : x % (2 ^ w) ^ min (2 * t) n < (2 ^ w) ^ min (2 * t) n := Nat.mod_lt _ (by (first | lia | omega))
  have m2 : x % (2 ^ w) ^ min (2 * t) n * f < 2 ^ 100 := by
    have := Nat.mul_lt_mul'' (show x % (2 ^ w) ^ min (2 * t) n < 2 ^ 50 by (first | lia | omega)) (show f < 2 ^ 50 by (first | lia | omega))
    rwa [← Nat.pow_add] at this
  have m3 : x % (2 ^ w) ^ min (2 * t) n * f % (2 ^ w) ^ min (2 * t) n < (2 ^ w) ^ min (2 * t) n := Nat.mod_lt _ (by (first | lia | omega))
  have hmin : 1 ≤ min (2 * t) n ∧ min (2 * t) n ≤ n ∧ (t < n → t < min (2 * t) n) := by (first | lia | omega)
  repeat' walk_at "vc"
  · rename_i g q3 H3 s3 n3 e3 o3 q4 H4 s4 n4 e4 o4 q5 H5 s5 n5 e5 o5 q6 H6 s6 n6 e6 o6 q7 H7 s7 n7 e7 o7
    have htwo : [2] = dg (2 ^ w) 2 := by rw [dg_pos (by (first | lia | omega)) (by decide), Nat.mod_eq_of_lt (by (first | lia | omega)), Nat.div_eq_of_lt (by (first | lia | omega)), dg_zero]
    rw [htwo] at e7
    have m4 := Nat.mod_lt ((2 ^ w) ^ min (2 * t) n - x % (2 ^ w) ^ min (2 * t) n * f % (2 ^ w) ^ min (2 * t) n) (show 0 < (2 ^ w) ^ min (2 * t) n by (first | lia | omega))
    have m5 := Nat.mod_lt (((2 ^ w) ^ min (2 * t) n - x % (2 ^ w) ^ min (2 * t) n * f % (2 ^ w) ^ min (2 * t) n) % (2 ^ w) ^ min (2 * t) n + 2) (show 0 < (2 ^ w) ^ min (2 * t) n by (first | lia | omega))
    have m6 : f * ((((2 ^ w) ^ min (2 * t) n - x % (2 ^ w) ^ min (2 * t) n * f % (2 ^ w) ^ min (2 * t) n) % (2 ^ w) ^ min (2 * t) n + 2) % (2 ^ w) ^ min (2 * t) n) < 2 ^ 100 := by
      have := Nat.mul_lt_mul'' (show f < 2 ^ 50 by (first | lia | omega)) (show (((2 ^ w) ^ min (2 * t) n - x % (2 ^ w) ^ min (2 * t) n * f % (2 ^ w) ^ min (2 * t) n) % (2 ^ w) ^ min (2 * t) n + 2) % (2 ^ w) ^ min (2 * t) n < 2 ^ 50 by (first | lia | omega))
      rwa [← Nat.pow_add] at this
    have e22 := ((((s3.trans s4).trans s5).trans s6).trans s7).get e2
    repeat' walk_at "vc"
    rename_i q8 H8 s8 n8 e8 o8 q9 H9 s9 n9 e9 o9 qa Ha sa na ea oa qb Hb sb nb eb ob
    refine vq_loop (n - min (2 * t) n) (by (first | lia | omega)) ⟨qb, _, min (2 * t) n, Hb, _, _, rfl, rfl, ((((((((s2.trans s3).trans s4).trans s5).trans s6).trans s7).trans s8).trans s9).trans sa).trans sb, eb, Nat.mod_lt _ (by (first | lia | omega)), hstep, hmin.1, hmin.2.1⟩
  · rename_i g
    have : t = n := by (first | lia | omega)
    subst this
    exact k _ _ _ (Hp.back_sub s2.sb) e2 hf hxf
end
section
variable {W : World} {B : Heap} {D : Nat} {H : Hp} {Q : AV → Hp → Prop} {w : Nat}
theorem tab_ne_list {xs : List AV} : AObj.list xs ≠ AObj.raw (tabObj #[]) := by intro z; cases z
theorem IsMont.but {H H' : Hp} {t : Addr} {w m : Nat} {rm ro rs : Addr} {mi : Nat} {P : Addr} (h : IsMont H t w m rm ro rs mi) (hP : H.rd P = some (.raw (tabObj #[]))) (s : ∀ a ao, a ≠ P → H.rd a = some ao → H'.rd a = some ao) : IsMont H' t w m rm ro rs mi := by
  obtain ⟨⟨dx, es, n, tk, a, b, c⟩, hm, ho, hs, r1, r2, r3, r4, r5⟩ := h
  have nl : ∀ r xs, H.rd r = some (LN xs) → r ≠ P := fun r xs e z => by subst z; rw [hP] at e; cases e
  refine ⟨⟨dx, es, n, tk, s _ _ (fun z => ?_) a, s _ _ (fun z => ?_) b, c⟩, s _ _ (nl _ _ hm) hm, s _ _ (nl _ _ ho) ho, s _ _ (nl _ _ hs) hs, r1, r2, r3, r4, r5⟩
  · subst z; rw [hP] at a; cases a
  · subst z; rw [hP] at b; cases b
noncomputable def RM (w m x : Nat) (i : Nat) (v : AV) (H : Hp) : Prop := ∃ r, v = .ref r ∧ H.rd r = some (LN (dg (2 ^ w) (x ^ i * (2 ^ w) ^ (dg (2 ^ w) m).length % m)))
theorem IsMont.hide {t : Addr} {m : Nat} {rm ro rs : Addr} {mi : Nat} {cl : List (Str × Addr)} {cavs : List AV} (h : IsMont H t w m rm ro rs mi) (C : CellsRd H cl cavs) : IsMont (H.hide cl) t w m rm ro rs mi := by
  obtain ⟨⟨dx, es, n, tk, a, b, c⟩, hm, ho, hs, r1, r2, r3, r4, r5⟩ := h
  exact ⟨⟨dx, es, n, tk, hide_rd C a nofun, hide_rd C b nofun, c⟩, hide_rd C hm nofun, hide_rd C ho nofun, hide_rd C hs nofun, r1, r2, r3, r4, r5⟩
theorem mont_times_ok {t : Addr} {m : Nat} {rm ro rs : Addr} {mi : Nat} (hw : 2 ≤ w ∧ w ≤ 9) (hM : IsMont H t w m rm ro rs mi) (hP : H.rd 287 = some (.raw (tabObj #[]))) (hPo : H.own 287)
    (k : ∀ f H', SubBut 287 H H' → (∃ ps, H'.rd 287 = some (.raw (tabObj ps))) → (∀ D x, TimesOk (gs W B) (D + 6) f H' (RM w m x)) → Q (.ref f) H') : callP (gs W B) (D + 1) 292 [.ref t, .int (w : Int), .ref 374] H Q := by
  refine' callP_defXL (Wb := _) (hK := rfl) rfl rfl rfl rfl rfl [Str.ofString "told", Str.ofString "w", Str.ofString "mul"] [Str.ofString "multiplied"] (by decide) rfl ?hkind ?hkc (by decide) ?hb ?hw [some (.ref t), some (.int (w : Int)), some (.ref 374), none] rfl ?hv
  case hkind =>
    intro n y hy
    simp only [List.mem_cons, List.not_mem_nil, or_false] at hy
    rcases hy with rfl | rfl | rfl <;> first | exact Or.inl rfl | exact Or.inr ⟨rfl, rfl⟩
  case hkc => decide
  case hb => exact fun vs hv => vrs_all (P := fun vs => bindArgs _ ⟨vs, []⟩ = pure (List.zip _ vs)) hv (fun _ _ _ => rfl)
  case hw =>
    intro A L
    simp only [List.cons_append, List.nil_append]
    refine' trb_cons ?s1 ?s2
    case s1 => refine' tr_defG 291 287 [(Str.ofString "w", L + 2), (Str.ofString "told", L + 1), (Str.ofString "mul", L + 3)] rfl (fun ok => codeHd_of_K ok.X rfl) rfl (by walk_at "lk") (by with_unfolding_all walk_at "sto")
    case s2 => repeat' walk_at "tr"
  case hv =>
    intro L
    refine vc_seq ?_
    refine ⟨hP, hPo, fun fa c' co vs tk doc pm ctv H1 b1 hco hvs hc' hfa ⟨ps, hps⟩ nfa nc' rfa rc' => ?_⟩
    repeat' walk_at "vc"
    intro H2 r1 r2 r3 r4 r5 r6
    have b2 : SubBut 287 H H2 := ⟨fun a ao n e => r1 _ _ (b1.1 a ao n e), r3, fun a e => (r4 a e).elim .inl fun z => (Classical.em (a = 287)).elim (fun q => .inl (q ▸ hPo)) fun q => .inr ⟨q, z⟩⟩
    refine k fa H2 b2 ⟨ps, r1 _ _ hps⟩ fun D x => ?_
    have c1 := r2 (L + 1) (.ref t) ⟨0, _, rfl, rfl, .tail _ (.tail _ (.head _))⟩
    have c2 := r2 (L + 2) (.int (w : Int)) ⟨1, _, rfl, rfl, .tail _ (.head _)⟩
    have c3 := r2 (L + 3) (.ref 374) ⟨2, _, rfl, rfl, .head _⟩
    have hC : CellsRd H2 [(Str.ofString "w", L + 2), (Str.ofString "told", L + 1), (Str.ofString "mul", L + 3)] [.int (w : Int), .ref t, .ref 374] := by
      refine ⟨rfl, fun i y c h => ?_⟩
      match i, h with
      | 0, h => cases h; exact ⟨_, rfl, c2.1, c2.2.1⟩
      | 1, h => cases h; exact ⟨_, rfl, c1.1, c1.2.1⟩
      | 2, h => cases h; exact ⟨_, rfl, c3.1, c3.2.1⟩
    have hM2 := hM.but hP b2.1
    have hclo : ∀ u v, CloOk (gs W B) fa [u, v] H2 _ [(Str.ofString "w", L + 2), (Str.ofString "told", L + 1), (Str.ofString "mul", L + 3)] [.int (w : Int), .ref t, .ref 374] [Str.ofString "x", Str.ofString "y"] [] := fun u v =>
      CloOk.make [(Str.ofString "x", .local), (Str.ofString "y", .local), (Str.ofString "mul", .free), (Str.ofString "told", .free), (Str.ofString "w", .free), (Str.ofString "mont_mul", .globalImplicit)] [Str.ofString "w", Str.ofString "told", Str.ofString "mul"]
      ⟨_, r1 _ _ hfa, rfl⟩ ⟨c', co, vs, tk, rfl, r1 _ _ hc', hco, hvs⟩ rfl rfl rfl hC (by simp) rfl rfl rfl (fun vs hv => vrs_all (P := fun vs => bindArgs _ ⟨vs, []⟩ = pure (List.zip _ vs)) hv (fun _ _ => rfl)) rfl rfl rfl
    have nfa2 : ¬ H2.own fa := r5 _ _ hfa nfa fun z => (b1.2.1 _ z |> nfa)
    have hfa2 := r1 _ _ hfa
    refine ⟨?_, ?_, ?_, ?_, ?_⟩
    · rintro i v Ha Hb ⟨r, rfl, e⟩ s
      exact ⟨r, rfl, s _ _ e⟩
    · rintro i v Ha Hb q b vs x ⟨r, rfl, e⟩ hq ⟨rb, rfl, eb⟩ t
      exact ⟨r, rfl, t.keep (fun z => by subst z; rw [hq] at e; exact LN_ne_ref (Option.some.inj e).symm) e⟩
    · intro Ha l P s hp
      exact fnK_raw (s.1 _ _ hfa2) rfl (s.noown nfa2 hfa2) hp
    · rintro i v Ha QB σ ⟨r, rfl, e⟩ h
      exact vc_isN_ref h
    · rintro Ha u v i j QQ s ⟨r7, rfl, e7⟩ ⟨r8, rfl, e8⟩ hij kk
      have hCa := hC.mono s
      refine' callP_clo2L (Wb := _) ((hclo _ _).mono s) rfl ?hw [some (.ref r7), some (.ref r8), some (.int (w : Int)), some (.ref t), some (.ref 374)] rfl ?hv
      case hw =>
        intro A L'
        simp only [List.cons_append, List.nil_append, List.map_cons, List.map_nil]
        repeat' walk_at "tr"
      case hv =>
        have e7' := hide_rd hCa e7 nofun
        have e8' := hide_rd hCa e8 nofun
        have hMa := (hM2.mono s.sb).hide hCa
        have m0 := hM.m0
        repeat' walk_at "vc"
        refine mont_mul_ok (D := D) hw e7' e8' hMa (Nat.mod_lt _ m0) (Nat.mod_lt _ m0) (z := x ^ (i + j) * (2 ^ w) ^ (dg (2 ^ w) m).length) ?_ fun r9 H9 s9 e9 => ?_
        · rw [← Nat.mul_mod, Nat.pow_add]; congr 1; grind
        repeat' walk_at "vc"
        refine ⟨fun i av h => ?_, fun hin => kk _ _ (unhide_sub s9) ⟨r9, rfl, unhide_rd hin e9⟩⟩
        match i, h with
        | 0, h => cases h; rfl
        | 1, h => cases h; rfl
        | 2, h => cases h; rfl
end
section
variable {W : World} {B : Heap} {D : Nat} {H : Hp} {Q : AV → Hp → Prop} {w : Nat}
noncomputable def RL (w n x : Nat) (i : Nat) (v : AV) (H : Hp) : Prop := ∃ r, v = .ref r ∧ H.rd r = some (LN (dg (2 ^ w) (x ^ i % 2 ^ n)))
theorem low_times_ok {n : Nat} (hw : 2 ≤ w ∧ w ≤ 9) (hn : n ≤ 60) (hP : H.rd 294 = some (.raw (tabObj #[]))) (hPo : H.own 294)
    (k : ∀ f H', SubBut 294 H H' → (∃ ps, H'.rd 294 = some (.raw (tabObj ps))) → (∀ D x, TimesOk (gs W B) (D + 3) f H' (RL w n x)) → Q (.ref f) H') : callP (gs W B) (D + 1) 299 [.int (n : Int), .int (w : Int), .ref 374] H Q := by
  refine' callP_defXL (Wb := _) (hK := rfl) rfl rfl rfl rfl rfl [Str.ofString "n", Str.ofString "w", Str.ofString "mul"] [Str.ofString "multiplied"] (by decide) rfl ?hkind ?hkc (by decide) ?hb ?hw [some (.int (n : Int)), some (.int (w : Int)), some (.ref 374), none] rfl ?hv
  case hkind =>
    intro n y hy
    simp only [List.mem_cons, List.not_mem_nil, or_false] at hy
    rcases hy with rfl | rfl | rfl <;> first | exact Or.inl rfl | exact Or.inr ⟨rfl, rfl⟩
  case hkc => decide
  case hb => exact fun vs hv => vrs_all (P := fun vs => bindArgs _ ⟨vs, []⟩ = pure (List.zip _ vs)) hv (fun _ _ _ => rfl)
  case hw =>
    intro A L
    simp only [List.cons_append, List.nil_append]
    refine' trb_cons ?s1 ?s2
    case s1 => refine' tr_defG 298 294 [(Str.ofString "w", L + 2), (Str.ofString "n", L + 1), (Str.ofString "mul", L + 3)] rfl (fun ok => codeHd_of_K ok.X rfl) rfl (by walk_at "lk") (by with_unfolding_all walk_at "sto")
    case s2 => repeat' walk_at "tr"
  case hv =>
    intro L
    refine vc_seq ?_
    refine ⟨hP, hPo, fun fa c' co vs tk doc pm ctv H1 b1 hco hvs hc' hfa ⟨ps, hps⟩ nfa nc' rfa rc' => ?_⟩
    repeat' walk_at "vc"
    intro H2 r1 r2 r3 r4 r5 r6
    have b2 : SubBut 294 H H2 := ⟨fun a ao n e => r1 _ _ (b1.1 a ao n e), r3, fun a e => (r4 a e).elim .inl fun z => (Classical.em (a = 294)).elim (fun q => .inl (q ▸ hPo)) fun q => .inr ⟨q, z⟩⟩
    refine k fa H2 b2 ⟨ps, r1 _ _ hps⟩ fun D x => ?_
    have c1 := r2 (L + 1) (.int (n : Int)) ⟨0, _, rfl, rfl, .tail _ (.tail _ (.head _))⟩
    have c2 := r2 (L + 2) (.int (w : Int)) ⟨1, _, rfl, rfl, .tail _ (.head _)⟩
    have c3 := r2 (L + 3) (.ref 374) ⟨2, _, rfl, rfl, .head _⟩
    have hC : CellsRd H2 [(Str.ofString "w", L + 2), (Str.ofString "n", L + 1), (Str.ofString "mul", L + 3)] [.int (w : Int), .int (n : Int), .ref 374] := by
      refine ⟨rfl, fun i y c h => ?_⟩
      match i, h with
      | 0, h => cases h; exact ⟨_, rfl, c2.1, c2.2.1⟩
      | 1, h => cases h; exact ⟨_, rfl, c1.1, c1.2.1⟩
      | 2, h => cases h; exact ⟨_, rfl, c3.1, c3.2.1⟩
    have hclo : ∀ u v, CloOk (gs W B) fa [u, v] H2 _ [(Str.ofString "w", L + 2), (Str.ofString "n", L + 1), (Str.ofString "mul", L + 3)] [.int (w : Int), .int (n : Int), .ref 374] [Str.ofString "x", Str.ofString "y"] [] := fun u v =>
      CloOk.make [(Str.ofString "x", .local), (Str.ofString "y", .local), (Str.ofString "mul", .free), (Str.ofString "n", .free), (Str.ofString "w", .free), (Str.ofString "low", .globalImplicit)] [Str.ofString "w", Str.ofString "n", Str.ofString "mul"]
      ⟨_, r1 _ _ hfa, rfl⟩ ⟨c', co, vs, tk, rfl, r1 _ _ hc', hco, hvs⟩ rfl rfl rfl hC (by simp) rfl rfl rfl (fun vs hv => vrs_all (P := fun vs => bindArgs _ ⟨vs, []⟩ = pure (List.zip _ vs)) hv (fun _ _ => rfl)) rfl rfl rfl
    have nfa2 : ¬ H2.own fa := r5 _ _ hfa nfa fun z => (b1.2.1 _ z |> nfa)
    have hfa2 := r1 _ _ hfa
    refine ⟨?_, ?_, ?_, ?_, ?_⟩
    · rintro i v Ha Hb ⟨r, rfl, e⟩ s
      exact ⟨r, rfl, s _ _ e⟩
    · rintro i v Ha Hb q b vs x ⟨r, rfl, e⟩ hq ⟨rb, rfl, eb⟩ t
      exact ⟨r, rfl, t.keep (fun z => by subst z; rw [hq] at e; exact LN_ne_ref (Option.some.inj e).symm) e⟩
    · intro Ha l P s hp
      exact fnK_raw (s.1 _ _ hfa2) rfl (s.noown nfa2 hfa2) hp
    · rintro i v Ha QB σ ⟨r, rfl, e⟩ h
      exact vc_isN_ref h
    · rintro Ha u v i j QQ s ⟨r7, rfl, e7⟩ ⟨r8, rfl, e8⟩ hij kk
      have hCa := hC.mono s
      refine' callP_clo2L (Wb := _) ((hclo _ _).mono s) rfl ?hw [some (.ref r7), some (.ref r8), some (.int (w : Int)), some (.int (n : Int)), some (.ref 374)] rfl ?hv
      case hw =>
        intro A L'
        simp only [List.cons_append, List.nil_append, List.map_cons, List.map_nil]
        repeat' walk_at "tr"
      case hv =>
        have e7' := hide_rd hCa e7 nofun
        have e8' := hide_rd hCa e8 nofun
        have p0 : 0 < 2 ^ n := Nat.pow_pos (by decide)
        have p1 : 2 ^ n ≤ 2 ^ 60 := Nat.pow_le_pow_right (by decide) hn
        have m1 : x ^ i % 2 ^ n < 2 ^ n := Nat.mod_lt _ p0
        have m2 : x ^ j % 2 ^ n < 2 ^ n := Nat.mod_lt _ p0
        have m3 : x ^ i % 2 ^ n * (x ^ j % 2 ^ n) < 2 ^ 60 * 2 ^ 60 := Nat.mul_lt_mul'' (by (first | lia | omega)) (by (first | lia | omega))
        have hfin : x ^ i % 2 ^ n * (x ^ j % 2 ^ n) % 2 ^ n = x ^ (i + j) % 2 ^ n := by rw [← Nat.mul_mod, Nat.pow_add]
        repeat' walk_at "vc"
        rename_i q9 H9 s9 n9 e9 o9 qa Ha' sa na ea oa
        rw [hfin] at ea
        refine ⟨fun i av h => ?_, fun hin => kk _ _ (unhide_sub (s9.trans sa)) ⟨qa, rfl, unhide_rd hin ea⟩⟩
        match i, h with
        | 0, h => cases h; rfl
        | 1, h => cases h; rfl
        | 2, h => cases h; rfl
end
section
local macro_rules | `(tactic| walk_at "ct") => `(tactic| with_reducible refine' mont_mul_ok (by assumption) (by walk_at "rd") (by walk_at "rd") (by assumption) ?_ ?_ ?_ ?_)
local macro_rules | `(tactic| walk_at "ct") => `(tactic| with_reducible refine' mont_make_ok (by assumption) (by walk_at "rd") ?_ ?_ ?_)
variable {W : World} {B : Heap} {D : Nat} {H : Hp} {Q : AV → Hp → Prop} {w : Nat}
theorem SubBut.ln {H H' : Hp} {P a : Addr} {o : Obj} {ds : List Nat} (s : SubBut P H H') (hP : H.rd P = some (.raw o)) (h : H.rd a = some (LN ds)) : H'.rd a = some (LN ds) :=
  s.1 a _ (fun z => by subst z; rw [hP] at h; cases h) h
theorem power_mont_ok {a e c : Addr} {x E m size : Nat} (hw : 2 ≤ w ∧ w ≤ 9) (ha : H.rd a = some (LN (dg (2 ^ w) x))) (he : H.rd e = some (LN (dg (2 ^ w) E))) (hc : H.rd c = some (LN (dg (2 ^ w) m))) (hx : x < 2 ^ 60) (hE : E < 2 ^ 10) (hodd : m % 2 = 1) (hm : m < 2 ^ 40) (hz : 1 ≤ size ∧ size ≤ 8)
    (hP : H.rd 287 = some (.raw (tabObj #[]))) (hPo : H.own 287)
    (k : ∀ r H', SubBut 287 H H' → (∃ ps, H'.rd 287 = some (.raw (tabObj ps))) → H'.rd r = some (LN (dg (2 ^ w) (x ^ E % m))) → Q (.ref r) H') : callP (gs W B) (D + 9) 306 [.ref a, .ref e, .ref c, .int (w : Int), .int (size : Int), .ref 374, .ref 381] H Q := by
  have m0 : 0 < m := by (first | lia | omega)
  have hxm : x % m < m := Nat.mod_lt _ m0
  refine' callP_def0 (Wb := _) (hK := rfl) rfl rfl rfl rfl rfl [Str.ofString "a", Str.ofString "e", Str.ofString "m", Str.ofString "w", Str.ofString "size", Str.ofString "mul", Str.ofString "divrem"] [Str.ofString "told", Str.ofString "base", Str.ofString "found"] (by decide) rfl rfl rfl ?hb ?hw [some (.ref a), some (.ref e), some (.ref c), some (.int (w : Int)), some (.int (size : Int)), some (.ref 374), some (.ref 381), none, none, none] rfl ?hv
  case hb => exact fun vs hv => vrs_all (P := fun vs => bindArgs _ ⟨vs, []⟩ = pure (List.zip _ vs)) hv (fun _ _ _ _ _ _ _ => rfl)
  case hw =>
    intro A L
    simp only [List.cons_append, List.nil_append]
    repeat' walk_at "tr"
  case' hv => skip
  repeat' walk_at "vc"
  · exact hodd
  intro t ro rs mi H1 s1 hM
  repeat' walk_at "vc"
  rename_i t2 p2 q2 H2 s2 e2 e3 e4
  have hM2 := hM.mono s2.sb
  refine to_mont_ok (D := D + 3) hw e4 hM2 hxm fun r3 H3 s3 e5 => ?_
  have hM3 := hM2.mono s3.sb
  repeat' walk_at "vc"
  refine mont_one hM3 ?_
  repeat' walk_at "vc"
  have s03 := (s1.trans s2).trans s3
  refine mont_times_ok (D := D + 7) hw hM3 (s03.get hP) (s03.2.1 _ hPo) fun f H4 b4 hps hT => ?_
  have hP3 := s03.get hP
  have hM4 := hM3.but hP3 b4.1
  have e54 := b4.ln hP3 e5
  have he4 := b4.ln hP3 (s03.get he)
  have hend : ∀ r H5, H4.Sub H5 → H5.rd r = some (LN (dg (2 ^ w) (x ^ E % m))) → Q (.ref r) (H5.back H) := fun r H5 s5 e6 =>
    k r _ (back_but (fun a ao n h => s5.1 _ _ (b4.1 a ao n (s03.1 _ _ h))) hP) (hps.elim fun ps h => ⟨ps, s5.1 _ _ h⟩) e6
  have hfin : ∀ r H5, H4.Sub H5 → H5.rd r = some (LN (dg (2 ^ w) ((x % m) ^ E * (2 ^ w) ^ (dg (2 ^ w) m).length % m))) → callP (gs W B) (D + 8) 243 [.ref r, .ref t, .int (w : Int)] H5 fun v H' => Q v (H'.back H) := fun r H5 s5 e6 => by
    refine from_mont_ok (D := D + 3) hw e6 (hM4.mono s5.sb) (Nat.mod_lt _ m0) (z := (x % m) ^ E) (Nat.mod_mod _ _) fun r7 H7 s7 e7 => ?_
    rw [← Nat.pow_mod] at e7
    exact hend r7 H7 (s5.trans s7) e7
  repeat' walk_at "vc"
  refine by_windows_ok (D := D + 5) (R := RM w m (x % m)) (H₀ := H4) hw (hT _ _) .refl ⟨r3, rfl, by rw [Nat.pow_one]; exact e54⟩ he4 hE hz (fun h0 H5 s5 => ?_) (fun hE0 v H5 s5 hv => ?_)
  · have e6 := s5.get hM4.ho
    repeat' walk_at "vc"
    rw [h0] at hfin
    exact hfin ro H5 s5 (by rw [Nat.pow_zero, Nat.one_mul]; exact e6)
  · first
      | (refine ex1 hv fun r6 hh1 => ?_; refine an2 hh1 fun hr0 e6 => ?_; clear hh1 hv; subst hr0)
      | (refine an3 hv fun r6 hr0 e6 => ?_; clear hv; subst hr0)
      | obtain ⟨r6, rfl, e6⟩ := hv
    repeat' walk_at "vc"
    exact hfin r6 H5 s5 e6
end
section
variable {W : World} {B : Heap} {D : Nat} {H : Hp} {Q : AV → Hp → Prop} {w : Nat}
theorem power_low_ok {a e : Addr} {x E n size : Nat} (hw : 2 ≤ w ∧ w ≤ 9) (ha : H.rd a = some (LN (dg (2 ^ w) x))) (he : H.rd e = some (LN (dg (2 ^ w) E))) (hx : x < 2 ^ 60) (hE : E < 2 ^ 10) (hn : n ≤ 60) (hz : 1 ≤ size ∧ size ≤ 8)
    (hP : H.rd 294 = some (.raw (tabObj #[]))) (hPo : H.own 294)
    (k : ∀ r H', SubBut 294 H H' → (∃ ps, H'.rd 294 = some (.raw (tabObj ps))) → H'.rd r = some (LN (dg (2 ^ w) (x ^ E % 2 ^ n))) → Q (.ref r) H') : callP (gs W B) (D + 6) 313 [.ref a, .ref e, .int (n : Int), .int (w : Int), .int (size : Int), .ref 374] H Q := by
  obtain ⟨b1, b2⟩ := pw hw
  refine' callP_def0 (Wb := _) (hK := rfl) rfl rfl rfl rfl rfl [Str.ofString "a", Str.ofString "e", Str.ofString "n", Str.ofString "w", Str.ofString "size", Str.ofString "mul"] [Str.ofString "one"] (by decide) rfl rfl rfl ?hb ?hw [some (.ref a), some (.ref e), some (.int (n : Int)), some (.int (w : Int)), some (.int (size : Int)), some (.ref 374), none] rfl ?hv
  case hb => exact fun vs hv => vrs_all (P := fun vs => bindArgs _ ⟨vs, []⟩ = pure (List.zip _ vs)) hv (fun _ _ _ _ _ _ => rfl)
  case hw =>
    intro A L
    simp only [List.cons_append, List.nil_append]
    repeat' walk_at "tr"
  case' hv => skip
  repeat' walk_at "vc"
  rename_i q0 H0 s0 n0 e0 o0
  rw [← dg_one (b := 2 ^ w) (by (first | lia | omega))] at e0
  repeat' walk_at "vc"
  rename_i q1 H1 s1 n1 e1 o1 q2 H2 s2 n2 e2 o2
  have s02 := (s0.trans s1).trans s2
  refine low_times_ok (D := D + 4) hw hn (s02.get hP) (s02.2.1 _ hPo) fun f H4 b4 hps hT => ?_
  have hP2 := s02.get hP
  have e24 := b4.ln hP2 e2
  have e14 := b4.ln hP2 (s2.get e1)
  have he4 := b4.ln hP2 (s02.get he)
  have hend : ∀ r H5, H4.Sub H5 → H5.rd r = some (LN (dg (2 ^ w) (x ^ E % 2 ^ n))) → Q (.ref r) (H5.back H) := fun r H5 s5 e6 =>
    k r _ (back_but (fun a ao n h => s5.1 _ _ (b4.1 a ao n (s02.1 _ _ h))) hP) (hps.elim fun ps h => ⟨ps, s5.1 _ _ h⟩) e6
  repeat' walk_at "vc"
  refine by_windows_ok (D := D + 2) (R := RL w n x) (H₀ := H4) hw (hT _ _) .refl ⟨q2, rfl, by rw [Nat.pow_one]; exact e24⟩ he4 hE hz (fun h0 H5 s5 => ?_) (fun hE0 v H5 s5 hv => ?_)
  · repeat' walk_at "vc"
    refine hend _ _ s5 ?_
    rw [h0, Nat.pow_zero]; exact s5.get e14
  · first
      | (refine ex1 hv fun r6 hh1 => ?_; refine an2 hh1 fun hr0 e6 => ?_; clear hh1 hv; subst hr0)
      | (refine an3 hv fun r6 hr0 e6 => ?_; clear hv; subst hr0)
      | obtain ⟨r6, rfl, e6⟩ := hv
    repeat' walk_at "vc"
    exact hend r6 H5 s5 e6
end
section
variable {W : World} {B : Heap} {D : Nat} {H : Hp} {Q : AV → Hp → Prop} {w : Nat}
noncomputable def SubTwo (p q : Addr) (H H' : Hp) : Prop := (∀ a ao, a ≠ p → a ≠ q → H.rd a = some ao → H'.rd a = some ao) ∧ (∀ a, H.own a → H'.own a) ∧ ∀ a, H'.own a → H.own a ∨ H.rd a = none
theorem back_two {H H' : Hp} {p q : Addr} (h : ∀ a ao, a ≠ p → a ≠ q → H.rd a = some ao → H'.rd a = some ao) : SubTwo p q H (H'.back H) := ⟨h, fun a e => .inr e, fun a e => e.elim (fun e => .inr e.2) .inl⟩
theorem power_any_ok {a e c : Addr} {x E m size : Nat} (hw : 2 ≤ w ∧ w ≤ 9) (ha : H.rd a = some (LN (dg (2 ^ w) x))) (he : H.rd e = some (LN (dg (2 ^ w) E))) (hc : H.rd c = some (LN (dg (2 ^ w) m))) (hx : x < 2 ^ 60) (hE : E < 2 ^ 10) (heven : m % 2 = 0) (m0 : 0 < m) (hm : m < 2 ^ 40) (hz : 1 ≤ size ∧ size ≤ 8)
    (hP : H.rd 287 = some (.raw (tabObj #[]))) (hPo : H.own 287) (hP' : H.rd 294 = some (.raw (tabObj #[]))) (hPo' : H.own 294)
    (k : ∀ r H', SubTwo 287 294 H H' → (∃ ps, H'.rd 287 = some (.raw (tabObj ps))) → (∃ ps, H'.rd 294 = some (.raw (tabObj ps))) → H'.rd r = some (LN (dg (2 ^ w) (x ^ E % m))) → Q (.ref r) H') : callP (gs W B) (D + 10) 320 [.ref a, .ref e, .ref c, .int (w : Int), .int (size : Int), .ref 374, .ref 381] H Q := by
  obtain ⟨b1, b2⟩ := pw hw
  obtain ⟨o', ho'⟩ := tz_spec m0
  have hn1 : 1 ≤ tz m := by
    rcases Nat.eq_zero_or_pos (tz m) with z | z
    · rw [z] at ho'; (first | lia | omega)
    · exact z
  have hn40 : tz m < 40 := by
    rcases Nat.lt_or_ge (tz m) 40 with z | z
    · exact z
    · have h1 : 2 ^ 40 ≤ 2 ^ tz m := Nat.pow_le_pow_right (by decide) z
      have h2 := Nat.mul_le_mul_left (2 ^ tz m) (show 1 ≤ 2 * o' + 1 by (first | lia | omega))
      (first | lia | omega)
  generalize hn : tz m = n at *
  have hN0 : 0 < 2 ^ n := Nat.pow_pos (by decide)
  have hN2 : 2 ^ 1 ≤ 2 ^ n := Nat.pow_le_pow_right (by decide) hn1
  have hN40 : 2 ^ n ≤ 2 ^ 40 := Nat.pow_le_pow_right (by decide) (by (first | lia | omega))
  have hodiv : m / 2 ^ n = 2 * o' + 1 := by rw [ho', Nat.mul_div_cancel_left _ hN0]
  generalize ho : 2 * o' + 1 = o at *
  have hoo : o % 2 = 1 := by (first | lia | omega)
  have ho40 : o < 2 ^ 40 := by rw [← hodiv]; exact Nat.lt_of_le_of_lt (Nat.div_le_self _ _) hm
  first
    | (refine an3 (limbs_for hw hn1) fun l1 l2 l3 => ?_)
    | (refine ex1 (limbs_for hw hn1) fun l1 hh1 => ?_; refine an2 hh1 fun l2 l3 => ?_; clear hh1)
    | obtain ⟨l1, l2, l3⟩ := limbs_for hw hn1
  have hK : (2 ^ w) ^ ((n + w - 1) / w) < 2 ^ 50 := by
    rw [← Nat.pow_mul]; exact Nat.pow_lt_pow_right (by decide) (by (first | lia | omega))
  have hKd : 2 ^ n ∣ (2 ^ w) ^ ((n + w - 1) / w) := by rw [← Nat.pow_mul]; exact Nat.pow_dvd_pow 2 l2
  refine' callP_def0 (Wb := _) (hK := rfl) rfl rfl rfl rfl rfl [Str.ofString "a", Str.ofString "e", Str.ofString "m", Str.ofString "w", Str.ofString "size", Str.ofString "mul", Str.ofString "divrem"] [Str.ofString "n", Str.ofString "odd", Str.ofString "one", Str.ofString "other", Str.ofString "below", Str.ofString "way", Str.ofString "inverse"] (by decide) rfl rfl rfl ?hb ?hw [some (.ref a), some (.ref e), some (.ref c), some (.int (w : Int)), some (.int (size : Int)), some (.ref 374), some (.ref 381), none, none, none, none, none, none, none] rfl ?hv
  case hb => exact fun vs hv => vrs_all (P := fun vs => bindArgs _ ⟨vs, []⟩ = pure (List.zip _ vs)) hv (fun _ _ _ _ _ _ _ => rfl)
  case hw =>
    intro A L
    simp only [List.cons_append, List.nil_append]
    repeat' walk_at "tr"
  case' hv => skip
  refine vc_seq ?_
  repeat' walk_at "v1"
  rename_i H1 s1
  refine vc_seq ?_
  repeat' walk_at "v1"
  rename_i H2 s2
  rw [hn]
  refine vc_seq ?_
  repeat' walk_at "v1"
  rename_i q3 H3 s3 n3 e3 o3
  rw [hodiv] at e3
  have s03 := (s1.trans s2).trans s3
  have hP3 := s03.get hP
  refine vc_seq ?_
  repeat' walk_at "v1"
  refine power_mont_ok (D := D) hw (s03.get ha) (s03.get he) e3 hx hE hoo ho40 hz hP3 (s03.2.1 _ hPo) fun r4 H4 b4 ⟨ps4, hps4⟩ e4 => ?_
  repeat' walk_at "v1"
  refine vc_seq ?_
  repeat' walk_at "v1"
  · rename_i z; (first | lia | omega)
  refine vc_seq ?_
  repeat' walk_at "v1"
  have t4 : H4.rd 294 = some (.raw (tabObj #[])) := b4.1 _ _ (by decide) (s03.get hP')
  refine power_low_ok (D := D + 3) hw (b4.ln hP3 (s03.get ha)) (b4.ln hP3 (s03.get he)) hx hE (n := n) (by (first | lia | omega)) hz t4 (b4.2.1 _ (s03.2.1 _ hPo')) fun r5 H5 b5 ⟨ps5, hps5⟩ e5 => ?_
  have e43 := b5.ln t4 (b4.ln hP3 e3)
  have e45 := b5.ln t4 e4
  repeat' walk_at "v1"
  have hone : x ^ E % o < o := Nat.mod_lt _ (by (first | lia | omega))
  have hoth : x ^ E % 2 ^ n < 2 ^ n := Nat.mod_lt _ hN0
  refine vc_seq ?_
  repeat' walk_at "v1"
  rename_i r6 H6 s6 n6 e6 o6
  have hbel : x ^ E % o % 2 ^ n < 2 ^ n := Nat.mod_lt _ hN0
  have e56 := s6.get e5
  have hrest : ∀ a ao, a ≠ 287 → a ≠ 294 → H.rd a = some ao → H6.rd a = some ao := fun a ao h1 h2 h => s6.1 _ _ (b5.1 a ao h2 (b4.1 a ao h1 (s03.1 _ _ h)))
  refine vc_seq (vc_iteCut (fun v σ => ∃ r H', v = .ref r ∧ σ = ⟨[some (.ref a), some (.ref e), some (.ref c), some (.int (w : Int)), some (.int (size : Int)), some (.ref 374), some (.ref 381), some (.int (n : Int)), some (.ref q3), some (.ref r4), some (.ref r5), some (.ref r6), none, none], H'⟩ ∧ H6.Sub H' ∧ H'.rd r = some (LN (dg (2 ^ w) (wayOf (x ^ E % 2 ^ n) (x ^ E % o % 2 ^ n) (2 ^ n))))) ?_ ?_)
  · intro X hX
    repeat' walk_at "vc"
    · rename_i H8 s8 g q9 H9 s9 n9 e9 o9
      exact hX _ _ ⟨_, _, rfl, rfl, s8.trans s9, by unfold wayOf; rw [if_pos g]; exact e9⟩
    · rename_i H8 s8 g q9 H9 s9 n9 e9 o9
      rw [← dg_one (b := 2 ^ w) (by (first | lia | omega))] at e9
      repeat' walk_at "vc"
      rename_i qa Ha sa na ea oa qb Hb sb nb eb ob qc Hc sc nc ec oc
      rw [Nat.one_mul] at ec
      exact hX _ _ ⟨_, _, rfl, rfl, (((s8.trans s9).trans sa).trans sb).trans sc, by unfold wayOf; rw [if_neg g]; exact ec⟩
  intro v σ hh0
  first
    | (refine ex2 hh0 fun r7 H7 hh1 => ?_; refine an4 hh1 fun hr0 hr1 s7 e7 => ?_; clear hh1 hh0; subst hr0; subst hr1)
    | (refine an6 hh0 fun r7 H7 hr0 hr1 s7 e7 => ?_; clear hh0; subst hr0; subst hr1)
    | (refine ex1 hh0 fun r7 hh1 => ?_; refine an5 hh1 fun H7 hr0 hr1 s7 e7 => ?_; clear hh1 hh0; subst hr0; subst hr1)
    | obtain ⟨r7, H7, rfl, rfl, s7, e7⟩ := hh0
  have hway := way_lt (N := 2 ^ n) hoth hbel
  have e47 := (s6.trans s7).get e45
  have e37 := (s6.trans s7).get e43
  repeat' walk_at "vc"
  refine inverse_low_ok (D := D + 5) hw e37 hoo (by (first | lia | omega)) l1 hK fun r8 f H8 s8 e8 hf hof => ?_
  have e78 := s8.get e7
  have e48 := s8.get e47
  have e38 := s8.get e37
  have hprod : wayOf (x ^ E % 2 ^ n) (x ^ E % o % 2 ^ n) (2 ^ n) * f % 2 ^ n < 2 ^ n := Nat.mod_lt _ hN0
  have hp1 : wayOf (x ^ E % 2 ^ n) (x ^ E % o % 2 ^ n) (2 ^ n) * f < 2 ^ 50 * 2 ^ 50 := Nat.mul_lt_mul'' (by (first | lia | omega)) (by (first | lia | omega))
  have hp2 : o * (wayOf (x ^ E % 2 ^ n) (x ^ E % o % 2 ^ n) (2 ^ n) * f % 2 ^ n) < 2 ^ 40 * 2 ^ 40 := Nat.mul_lt_mul'' (by (first | lia | omega)) (by (first | lia | omega))
  repeat' walk_at "vc"
  rename_i q9 H9 s9 n9 e9 o9 qa Ha sa na ea oa qb Hb sb nb eb ob qc Hc sc nc ec oc
  rw [garner (N := 2 ^ n) (by (first | lia | omega)) (by (first | lia | omega)) (coprime_pow hoo) (inv_down (by (first | lia | omega)) hKd hof) (way_ok hoth), ← ho'] at ec
  have sAll := (((((s6.trans s7).trans s8).trans s9).trans sa).trans sb).trans sc
  exact k _ _ (back_two fun a ao h1 h2 h => (((((s7.trans s8).trans s9).trans sa).trans sb).trans sc).1 _ _ (hrest a ao h1 h2 h)) ⟨ps4, sAll.1 _ _ (b5.1 _ _ (by decide) hps4)⟩ ⟨ps5, sAll.1 _ _ hps5⟩ ec
end
section
variable {W : World} {B : Heap} {D : Nat} {H : Hp} {Q : AV → Hp → Prop} {w : Nat}
theorem bl_le {x k : Nat} (h : x < 2 ^ k) : bl x ≤ k := by
  rcases Nat.lt_or_ge k (bl x) with z | z
  · have h1 : 0 < x := by
      rcases Nat.eq_zero_or_pos x with y | y
      · rw [y] at z; exact absurd z (by simp [bl])
      · exact y
    have h2 := bl_ge h1
    have h3 : 2 ^ k ≤ 2 ^ (bl x - 1) := Nat.pow_le_pow_right (by decide) (by (first | lia | omega))
    (first | lia | omega)
  · exact z
theorem pow_mod_mul {x m i j : Nat} : x ^ i % m * (x ^ j % m) % m = x ^ (i + j) % m := by rw [← Nat.mul_mod, Nat.pow_add]
theorem power_best_ok {a e c : Addr} {x E m : Nat} (hw : 2 ≤ w ∧ w ≤ 9) (ha : H.rd a = some (LN (dg (2 ^ w) x))) (he : H.rd e = some (LN (dg (2 ^ w) E))) (hc : H.rd c = some (LN (dg (2 ^ w) m))) (hx : x < 2 ^ 60) (hE : E < 2 ^ 10) (m0 : 0 < m) (hm : m < 2 ^ 40)
    (hP : H.rd 287 = some (.raw (tabObj #[]))) (hPo : H.own 287) (hP' : H.rd 294 = some (.raw (tabObj #[]))) (hPo' : H.own 294)
    (k : ∀ r H', SubTwo 287 294 H H' → (∃ ps, H'.rd 287 = some (.raw (tabObj ps))) → (∃ ps, H'.rd 294 = some (.raw (tabObj ps))) → H'.rd r = some (LN (dg (2 ^ w) (x ^ E % m))) → Q (.ref r) H') : callP (gs W B) (D + 11) 348 [.ref a, .ref e, .ref c, .int (w : Int), .ref 374, .ref 381] H Q := by
  have hbl : bl E ≤ 10 := bl_le hE
  refine' callP_def0 (Wb := _) (hK := rfl) rfl rfl rfl rfl rfl [Str.ofString "a", Str.ofString "e", Str.ofString "m", Str.ofString "w", Str.ofString "mul", Str.ofString "divrem"] [Str.ofString "size"] (by decide) rfl rfl rfl ?hb ?hw [some (.ref a), some (.ref e), some (.ref c), some (.int (w : Int)), some (.ref 374), some (.ref 381), none] rfl ?hv
  case hb => exact fun vs hv => vrs_all (P := fun vs => bindArgs _ ⟨vs, []⟩ = pure (List.zip _ vs)) hv (fun _ _ _ _ _ _ => rfl)
  case hw =>
    intro A L
    simp only [List.cons_append, List.nil_append]
    repeat' walk_at "tr"
  case' hv => skip
  repeat' walk_at "vc"
  rename_i H1 s1
  intro size H2 s2 hws
  have hz : 1 ≤ size ∧ size ≤ 8 := ⟨hws.lo, hws.hi⟩
  repeat' walk_at "vc"
  · rename_i H3 s3 g
    have s := (s1.trans s2).trans s3
    refine power_any_ok (D := D) hw (s.get ha) (s.get he) (s.get hc) hx hE (by (first | lia | omega)) m0 hm hz (s.get hP) (s.2.1 _ hPo) (s.get hP') (s.2.1 _ hPo') fun r H4 b hp1 hp2 e4 => ?_
    repeat' walk_at "vc"
    exact k r _ (back_two fun a ao h1 h2 h => b.1 a ao h1 h2 (s.1 _ _ h)) hp1 hp2 e4
  · rename_i H3 s3 g
    have s := (s1.trans s2).trans s3
    refine power_mont_ok (D := D + 1) hw (s.get ha) (s.get he) (s.get hc) hx hE (by (first | lia | omega)) hm hz (s.get hP) (s.2.1 _ hPo) fun r H4 b hp1 e4 => ?_
    repeat' walk_at "vc"
    exact k r _ (back_two fun a ao h1 h2 h => b.1 a ao h1 (s.1 _ _ h)) hp1 ⟨_, b.1 _ _ (by decide) (s.get hP')⟩ e4
theorem ladder_ok {a e c : Addr} {x E m : Nat} (hw : 2 ≤ w ∧ w ≤ 9) (ha : H.rd a = some (LN (dg (2 ^ w) x))) (he : H.rd e = some (LN (dg (2 ^ w) E))) (hc : H.rd c = some (LN (dg (2 ^ w) m))) (hx : x < 2 ^ 60) (hE : E < 2 ^ 60) (m0 : 0 < m) (hm : m < 2 ^ 40)
    (k : RetO H (dg (2 ^ w) (x ^ E % m)) Q) : callP (gs W B) (D + 3) 327 [.ref a, .ref e, .ref c, .int (w : Int), .ref 374, .ref 381] H Q := by
  refine' callP_def0 (Wb := _) (hK := rfl) rfl rfl rfl rfl rfl [Str.ofString "a", Str.ofString "e", Str.ofString "m", Str.ofString "w", Str.ofString "mul", Str.ofString "divrem"] [Str.ofString "one", Str.ofString "other", Str.ofString "spot", Str.ofString "both"] (by decide) rfl rfl rfl ?hb ?hw [some (.ref a), some (.ref e), some (.ref c), some (.int (w : Int)), some (.ref 374), some (.ref 381), none, none, none, none] rfl ?hv
  case hb => exact fun vs hv => vrs_all (P := fun vs => bindArgs _ ⟨vs, []⟩ = pure (List.zip _ vs)) hv (fun _ _ _ _ _ _ => rfl)
  case hw =>
    intro A L
    simp only [List.cons_append, List.nil_append]
    repeat' walk_at "tr"
  case' hv => skip
  have hbl : bl E ≤ 60 := bl_le hE
  have hlt := bl_lt E
  repeat' walk_at "vc"
  rename_i H1 s1 r2 H2 s2 n2 e2 o2 t3 p3 q3 H3 s3 e3 e4 e5 H4 s4
  have s04 := ((s1.trans s2).trans s3).trans s4
  refine vq_rangeD 0 (bl E) (by (first | lia | omega)) (by (first | lia | omega)) (by (first | lia | omega)) (vq_forD (fun j σ => ∃ H' r r' o1 o2, σ = ⟨[some (.ref a), some (.ref e), some (.ref c), some (.int (w : Int)), some (.ref 374), some (.ref 381), some (.ref r), some (.ref r'), o1, o2], H'⟩ ∧ H.Sub H' ∧ H'.rd r = some (LN (dg (2 ^ w) (x ^ (E / 2 ^ (bl E - j)) % m))) ∧ H'.rd r' = some (LN (dg (2 ^ w) (x ^ (E / 2 ^ (bl E - j) + 1) % m))))
    ⟨H4, r2, q3, _, _, rfl, s04, ?_, ?_⟩ ?_ ?_)
  · rw [Nat.sub_zero, Nat.div_eq_of_lt hlt, Nat.pow_zero]; exact (s3.trans s4).get e2
  · rw [Nat.sub_zero, Nat.div_eq_of_lt hlt, Nat.zero_add, Nat.pow_one]; exact s4.get e5
  · intro j σ hj hh0
    first
      | (refine ex5 hh0 fun H5 r r' u1 u2 hh1 => ?_; refine an4 hh1 fun hr0 s5 e6 e7 => ?_; clear hh1 hh0; subst hr0)
      | (refine an9 hh0 fun H5 r r' u1 u2 hr0 s5 e6 e7 => ?_; clear hh0; subst hr0)
      | (refine ex1 hh0 fun H5 hh1 => ?_; refine an8 hh1 fun r r' u1 u2 hr0 s5 e6 e7 => ?_; clear hh1 hh0; subst hr0)
      | (refine ex2 hh0 fun H5 r hh1 => ?_; refine an7 hh1 fun r' u1 u2 hr0 s5 e6 e7 => ?_; clear hh1 hh0; subst hr0)
      | (refine ex3 hh0 fun H5 r r' hh1 => ?_; refine an6 hh1 fun u1 u2 hr0 s5 e6 e7 => ?_; clear hh1 hh0; subst hr0)
      | (refine ex4 hh0 fun H5 r r' u1 hh1 => ?_; refine an5 hh1 fun u2 hr0 s5 e6 e7 => ?_; clear hh1 hh0; subst hr0)
      | obtain ⟨H5, r, r', u1, u2, rfl, s5, e6, e7⟩ := hh0
    rw [show 0 + bl E - 1 - j = bl E - (j + 1) by (first | lia | omega)]
    have e8 : E / 2 ^ (bl E - (j + 1)) = 2 * (E / 2 ^ (bl E - j)) + E / 2 ^ (bl E - (j + 1)) % 2 := by
      have := div_next E (bl E - (j + 1))
      rwa [show bl E - (j + 1) + 1 = bl E - j by (first | lia | omega)] at this
    generalize E / 2 ^ (bl E - j) = A at *
    have m1 : x ^ A % m < m := Nat.mod_lt _ m0
    have m2 : x ^ (A + 1) % m < m := Nat.mod_lt _ m0
    have m3 : x ^ A % m * (x ^ (A + 1) % m) < 2 ^ 40 * 2 ^ 40 := Nat.mul_lt_mul'' (by (first | lia | omega)) (by (first | lia | omega))
    have m4 : x ^ A % m * (x ^ A % m) < 2 ^ 40 * 2 ^ 40 := Nat.mul_lt_mul'' (by (first | lia | omega)) (by (first | lia | omega))
    have m5 : x ^ (A + 1) % m * (x ^ (A + 1) % m) < 2 ^ 40 * 2 ^ 40 := Nat.mul_lt_mul'' (by (first | lia | omega)) (by (first | lia | omega))
    have he5 := s5.get he
    have hc5 := s5.get hc
    repeat' walk_at "vc"
    · rename_i rA HA sA nA eA oA tB pB qB HB sB eB1 eB2 eB3 HC sC g rD HD sD nD eD oD tE pE qE HE sE eE1 eE2 eE3
      rw [pow_mod_mul] at eB3 eE3
      first | refine exI5 HE qE qB _ _ ⟨rfl, ((((s5.trans sA).trans sB).trans sC).trans sD).trans sE, ?_, ?_⟩ | refine ⟨HE, qE, qB, _, _, rfl, ((((s5.trans sA).trans sB).trans sC).trans sD).trans sE, ?_, ?_⟩
      · rw [e8, g, show 2 * A + 0 = A + A by (first | lia | omega)]; exact eE3
      · rw [e8, g, show 2 * A + 0 + 1 = A + (A + 1) by (first | lia | omega)]; exact ((sC.trans sD).trans sE).get eB3
    · rename_i rA HA sA nA eA oA tB pB qB HB sB eB1 eB2 eB3 HC sC g rD HD sD nD eD oD tE pE qE HE sE eE1 eE2 eE3
      rw [pow_mod_mul] at eB3 eE3
      have g1 : E / 2 ^ (bl E - (j + 1)) % 2 = 1 := by (first | lia | omega)
      first | refine exI5 HE qB qE _ _ ⟨rfl, ((((s5.trans sA).trans sB).trans sC).trans sD).trans sE, ?_, ?_⟩ | refine ⟨HE, qB, qE, _, _, rfl, ((((s5.trans sA).trans sB).trans sC).trans sD).trans sE, ?_, ?_⟩
      · rw [e8, g1, show 2 * A + 1 = A + (A + 1) by (first | lia | omega)]; exact ((sC.trans sD).trans sE).get eB3
      · rw [e8, g1, show 2 * A + 1 + 1 = (A + 1) + (A + 1) by (first | lia | omega)]; exact eE3
  · intro σ hh0
    first
      | (refine ex5 hh0 fun H5 r r' u1 u2 hh1 => ?_; refine an4 hh1 fun hr0 s5 e6 e7 => ?_; clear hh1 hh0; subst hr0)
      | (refine an9 hh0 fun H5 r r' u1 u2 hr0 s5 e6 e7 => ?_; clear hh0; subst hr0)
      | (refine ex1 hh0 fun H5 hh1 => ?_; refine an8 hh1 fun r r' u1 u2 hr0 s5 e6 e7 => ?_; clear hh1 hh0; subst hr0)
      | (refine ex2 hh0 fun H5 r hh1 => ?_; refine an7 hh1 fun r' u1 u2 hr0 s5 e6 e7 => ?_; clear hh1 hh0; subst hr0)
      | (refine ex3 hh0 fun H5 r r' hh1 => ?_; refine an6 hh1 fun u1 u2 hr0 s5 e6 e7 => ?_; clear hh1 hh0; subst hr0)
      | (refine ex4 hh0 fun H5 r r' u1 hh1 => ?_; refine an5 hh1 fun u2 hr0 s5 e6 e7 => ?_; clear hh1 hh0; subst hr0)
      | obtain ⟨H5, r, r', u1, u2, rfl, s5, e6, e7⟩ := hh0
    rw [Nat.sub_self, Nat.pow_zero, Nat.div_one] at e6
    repeat' walk_at "vc"
    exact k.done s5.sb e6
end
section
variable {W : World} {B : Heap} {D : Nat} {H : Hp} {Q : AV → Hp → Prop} {w : Nat}
theorem two_powers_ok {a e b f c : Addr} {x E y G m : Nat} (hw : 2 ≤ w ∧ w ≤ 9) (ha : H.rd a = some (LN (dg (2 ^ w) x))) (he : H.rd e = some (LN (dg (2 ^ w) E))) (hb : H.rd b = some (LN (dg (2 ^ w) y))) (hf : H.rd f = some (LN (dg (2 ^ w) G))) (hc : H.rd c = some (LN (dg (2 ^ w) m))) (hx : x < 2 ^ 60) (hE : E < 2 ^ 60) (hy : y < 2 ^ 60) (hG : G < 2 ^ 60) (m0 : 0 < m) (hm : m < 2 ^ 40)
    (k : RetO H (dg (2 ^ w) (x ^ E * y ^ G % m)) Q) : callP (gs W B) (D + 3) 334 [.ref a, .ref e, .ref b, .ref f, .ref c, .int (w : Int), .ref 374, .ref 381] H Q := by
  have hblE : bl E ≤ 60 := bl_le hE
  have hblG : bl G ≤ 60 := bl_le hG
  have hltE := bl_lt E
  have hltG := bl_lt G
  have mx : x % m < m := Nat.mod_lt _ m0
  have my : y % m < m := Nat.mod_lt _ m0
  have mxy : x % m * (y % m) < 2 ^ 40 * 2 ^ 40 := Nat.mul_lt_mul'' (by (first | lia | omega)) (by (first | lia | omega))
  refine' callP_def0 (Wb := _) (hK := rfl) rfl rfl rfl rfl rfl [Str.ofString "a", Str.ofString "x", Str.ofString "b", Str.ofString "y", Str.ofString "m", Str.ofString "w", Str.ofString "mul", Str.ofString "divrem"] [Str.ofString "first", Str.ofString "second", Str.ofString "table", Str.ofString "found", Str.ofString "spot", Str.ofString "number"] (by decide) rfl rfl rfl ?hb ?hw [some (.ref a), some (.ref e), some (.ref b), some (.ref f), some (.ref c), some (.int (w : Int)), some (.ref 374), some (.ref 381), none, none, none, none, none, none] rfl ?hv
  case hb => exact fun vs hv => vrs_all (P := fun vs => bindArgs _ ⟨vs, []⟩ = pure (List.zip _ vs)) hv (fun _ _ _ _ _ _ _ _ => rfl)
  case hw =>
    intro A L
    simp only [List.cons_append, List.nil_append]
    repeat' walk_at "tr"
  case' hv => skip
  repeat' walk_at "vc"
  rename_i H1 s1 t2 p2 q2 H2 s2 e21 e22 e23 t3 p3 q3 H3 s3 e31 e32 e33 r4 H4 s4 n4 e4 o4 t5 p5 q5 H5 s5 e51 e52 e53 tb H6 s6 n6 e6 o6 r7 H7 s7 n7 e7 o7 H8 s8 H9 s9
  have s69 := ((s6.trans s7).trans s8).trans s9
  have s09 := ((((s1.trans s2).trans s3).trans s4).trans s5).trans s69
  have htb := ((s7.trans s8).trans s9).get e6
  have hq2 := (((s3.trans s4).trans s5).trans s69).get e23
  have hq3 := ((s4.trans s5).trans s69).get e33
  have hq5 := s69.get e53
  have htab : ∀ p q : Nat, p < 2 → q < 2 → 0 < p + 2 * q → ∃ rr, [AV.none, AV.ref q2, AV.ref q3, AV.ref q5][p + 2 * q]? = some (.ref rr) ∧ H9.rd rr = some (LN (dg (2 ^ w) (x ^ p * y ^ q % m))) := by
    intro p q hp hq h0
    have hp2 : p = 0 ∨ p = 1 := by (first | lia | omega)
    have hq2' : q = 0 ∨ q = 1 := by (first | lia | omega)
    rcases hp2 with rfl | rfl <;> rcases hq2' with rfl | rfl
    · (first | lia | omega)
    · exact ⟨q3, rfl, by rw [Nat.pow_zero, Nat.one_mul, Nat.pow_one]; exact hq3⟩
    · exact ⟨q2, rfl, by rw [Nat.pow_zero, Nat.mul_one, Nat.pow_one]; exact hq2⟩
    · exact ⟨q5, rfl, by rw [Nat.pow_one, Nat.pow_one, Nat.mul_mod]; exact hq5⟩
  generalize hN : max (bl E) (bl G) = N
  have hlE : E < 2 ^ N := Nat.lt_of_lt_of_le hltE (Nat.pow_le_pow_right (by decide) (by (first | lia | omega)))
  have hlG : G < 2 ^ N := Nat.lt_of_lt_of_le hltG (Nat.pow_le_pow_right (by decide) (by (first | lia | omega)))
  refine vq_rangeD 0 N (by (first | lia | omega)) (by (first | lia | omega)) (by (first | lia | omega)) (vq_forD (fun j σ => ∃ H' r o1 o2, σ = ⟨[some (.ref a), some (.ref e), some (.ref b), some (.ref f), some (.ref c), some (.int (w : Int)), some (.ref 374), some (.ref 381), some (.ref q2), some (.ref q3), some (.ref tb), some (.ref r), o1, o2], H'⟩ ∧ H9.Sub H' ∧ H'.rd r = some (LN (dg (2 ^ w) (x ^ (E / 2 ^ (N - j)) * y ^ (G / 2 ^ (N - j)) % m))))
    ⟨H9, r7, _, _, rfl, .refl, ?_⟩ ?_ ?_)
  · rw [Nat.sub_zero, Nat.div_eq_of_lt hlE, Nat.div_eq_of_lt hlG, Nat.pow_zero, Nat.pow_zero]; exact (s8.trans s9).get e7
  · intro j σ hj hh0
    first
      | (refine ex4 hh0 fun Ha r u1 u2 hh1 => ?_; refine an3 hh1 fun hr0 sa ea => ?_; clear hh1 hh0; subst hr0)
      | (refine an7 hh0 fun Ha r u1 u2 hr0 sa ea => ?_; clear hh0; subst hr0)
      | (refine ex1 hh0 fun Ha hh1 => ?_; refine an6 hh1 fun r u1 u2 hr0 sa ea => ?_; clear hh1 hh0; subst hr0)
      | (refine ex2 hh0 fun Ha r hh1 => ?_; refine an5 hh1 fun u1 u2 hr0 sa ea => ?_; clear hh1 hh0; subst hr0)
      | (refine ex3 hh0 fun Ha r u1 hh1 => ?_; refine an4 hh1 fun u2 hr0 sa ea => ?_; clear hh1 hh0; subst hr0)
      | obtain ⟨Ha, r, u1, u2, rfl, sa, ea⟩ := hh0
    rw [show 0 + N - 1 - j = N - (j + 1) by (first | lia | omega)]
    have e8 : E / 2 ^ (N - (j + 1)) = 2 * (E / 2 ^ (N - j)) + E / 2 ^ (N - (j + 1)) % 2 := by
      have := div_next E (N - (j + 1))
      rwa [show N - (j + 1) + 1 = N - j by (first | lia | omega)] at this
    have e9 : G / 2 ^ (N - (j + 1)) = 2 * (G / 2 ^ (N - j)) + G / 2 ^ (N - (j + 1)) % 2 := by
      have := div_next G (N - (j + 1))
      rwa [show N - (j + 1) + 1 = N - j by (first | lia | omega)] at this
    generalize E / 2 ^ (N - j) = A at *
    generalize G / 2 ^ (N - j) = C at *
    have hb1 : E / 2 ^ (N - (j + 1)) % 2 < 2 := Nat.mod_lt _ (by decide)
    have hb2 : G / 2 ^ (N - (j + 1)) % 2 < 2 := Nat.mod_lt _ (by decide)
    have m1 : x ^ A * y ^ C % m < m := Nat.mod_lt _ m0
    have m4 : x ^ A * y ^ C % m * (x ^ A * y ^ C % m) < 2 ^ 40 * 2 ^ 40 := Nat.mul_lt_mul'' (by (first | lia | omega)) (by (first | lia | omega))
    have s0a := s09.trans sa
    have he5 := s0a.get he
    have hc5 := s0a.get hc
    have hf5 := s0a.get hf
    have hsq : x ^ A * y ^ C % m * (x ^ A * y ^ C % m) % m = x ^ (2 * A) * y ^ (2 * C) % m := by
      rw [← Nat.mul_mod, Nat.two_mul, Nat.two_mul, Nat.pow_add, Nat.pow_add]; congr 1; grind
    repeat' walk_at "vc"
    · rename_i rb Hb sb nb eb ob tc pc qc Hc sc ec1 ec2 ec3 Hd sd He se g
      rw [hsq] at ec3
      first
        | (refine an3 (htab _ _ hb1 hb2 g) fun rr hr1 hr2 => ?_)
        | (refine ex1 (htab _ _ hb1 hb2 g) fun rr hh1 => ?_; refine an2 hh1 fun hr1 hr2 => ?_; clear hh1)
        | obtain ⟨rr, hr1, hr2⟩ := htab _ _ hb1 hb2 g
      have sbe := ((sb.trans sc).trans sd).trans se
      refine vc_idx ((sa.trans sbe).get htb) (atI_at hr1) (by (first | lia | omega)) ?_
      have hr3 := (sa.trans sbe).get hr2
      have ec4 := (sd.trans se).get ec3
      have m6 : x ^ (2 * A) * y ^ (2 * C) % m < m := Nat.mod_lt _ m0
      have m7 : x ^ (E / 2 ^ (N - (j + 1)) % 2) * y ^ (G / 2 ^ (N - (j + 1)) % 2) % m < m := Nat.mod_lt _ m0
      have m8 : x ^ (2 * A) * y ^ (2 * C) % m * (x ^ (E / 2 ^ (N - (j + 1)) % 2) * y ^ (G / 2 ^ (N - (j + 1)) % 2) % m) < 2 ^ 40 * 2 ^ 40 := Nat.mul_lt_mul'' (by (first | lia | omega)) (by (first | lia | omega))
      repeat' walk_at "vc"
      rename_i rf Hf sf nf ef of tg pg qg Hg sg eg1 eg2 eg3
      first | refine exI4 Hg qg _ _ ⟨rfl, ((sa.trans sbe).trans sf).trans sg, ?_⟩ | refine ⟨Hg, qg, _, _, rfl, ((sa.trans sbe).trans sf).trans sg, ?_⟩
      rw [← Nat.mul_mod] at eg3
      rw [e8, e9, Nat.pow_add, Nat.pow_add]
      rw [show x ^ (2 * A) * x ^ (E / 2 ^ (N - (j + 1)) % 2) * (y ^ (2 * C) * y ^ (G / 2 ^ (N - (j + 1)) % 2)) = x ^ (2 * A) * y ^ (2 * C) * (x ^ (E / 2 ^ (N - (j + 1)) % 2) * y ^ (G / 2 ^ (N - (j + 1)) % 2)) by grind]
      exact eg3
    · rename_i rb Hb sb nb eb ob tc pc qc Hc sc ec1 ec2 ec3 Hd sd He se g
      rw [hsq] at ec3
      have z1 : E / 2 ^ (N - (j + 1)) % 2 = 0 := by (first | lia | omega)
      have z2 : G / 2 ^ (N - (j + 1)) % 2 = 0 := by (first | lia | omega)
      first | refine exI4 He qc _ _ ⟨rfl, (((sa.trans sb).trans sc).trans sd).trans se, ?_⟩ | refine ⟨He, qc, _, _, rfl, (((sa.trans sb).trans sc).trans sd).trans se, ?_⟩
      rw [e8, e9, z1, z2, Nat.add_zero, Nat.add_zero]
      exact (sd.trans se).get ec3
  · intro σ hh0
    first
      | (refine ex4 hh0 fun Ha r u1 u2 hh1 => ?_; refine an3 hh1 fun hr0 sa ea => ?_; clear hh1 hh0; subst hr0)
      | (refine an7 hh0 fun Ha r u1 u2 hr0 sa ea => ?_; clear hh0; subst hr0)
      | (refine ex1 hh0 fun Ha hh1 => ?_; refine an6 hh1 fun r u1 u2 hr0 sa ea => ?_; clear hh1 hh0; subst hr0)
      | (refine ex2 hh0 fun Ha r hh1 => ?_; refine an5 hh1 fun u1 u2 hr0 sa ea => ?_; clear hh1 hh0; subst hr0)
      | (refine ex3 hh0 fun Ha r u1 hh1 => ?_; refine an4 hh1 fun u2 hr0 sa ea => ?_; clear hh1 hh0; subst hr0)
      | obtain ⟨Ha, r, u1, u2, rfl, sa, ea⟩ := hh0
    rw [Nat.sub_self, Nat.pow_zero, Nat.div_one, Nat.div_one] at ea
    repeat' walk_at "vc"
    exact k.done (s09.trans sa).sb ea
end
section
variable {W : World} {B : Heap} {D : Nat} {H : Hp} {Q : AV → Hp → Prop} {w : Nat}
noncomputable def Rows (w : Nat) (H : Hp) (X : Nat → Nat) (vs : List AV) : Prop := ∀ i av, vs[i]? = some av → ∃ r, av = .ref r ∧ H.rd r = some (LN (dg (2 ^ w) (X i)))
theorem Rows.mono {H H' : Hp} {X : Nat → Nat} {vs : List AV} (h : Rows w H X vs) (s : Sb H H') : Rows w H' X vs := fun i av e => by
  first
    | (refine an3 (h i av e) fun r a b => ?_)
    | (refine ex1 (h i av e) fun r hh1 => ?_; refine an2 hh1 fun a b => ?_; clear hh1)
    | obtain ⟨r, a, b⟩ := h i av e
  exact ⟨r, a, s _ _ b⟩
noncomputable def pr (X E : Nat → Nat) : Nat → Nat
  | 0 => 1
  | n + 1 => pr X E n * X n ^ E n
theorem pr_add (X A C : Nat → Nat) : ∀ n, pr X (fun i => A i + C i) n = pr X A n * pr X C n
  | 0 => rfl
  | n + 1 => by
    show pr X (fun i => A i + C i) n * X n ^ (A n + C n) = pr X A n * X n ^ A n * (pr X C n * X n ^ C n)
    rw [pr_add X A C n, Nat.pow_add]; grind
theorem pr_congr (X A C : Nat → Nat) : ∀ n, (∀ i, i < n → A i = C i) → pr X A n = pr X C n
  | 0, _ => rfl
  | n + 1, h => by
    show pr X A n * X n ^ A n = pr X C n * X n ^ C n
    rw [pr_congr X A C n fun i hi => h i (by (first | lia | omega)), h n (by (first | lia | omega))]
theorem pr_zero (X A : Nat → Nat) (n : Nat) (h : ∀ i, i < n → A i = 0) : pr X A n = 1 := by
  induction n with
  | zero => rfl
  | succ n ih =>
    show pr X A n * X n ^ A n = 1
    rw [ih fun i hi => h i (by (first | lia | omega)), h n (by (first | lia | omega)), Nat.pow_zero]
theorem many_products_ok {bs es c : Addr} {X E : Nat → Nat} {m n : Nat} {vs us : List AV} (hw : 2 ≤ w ∧ w ≤ 9) (hb : H.rd bs = some (.list vs)) (hvs : Rows w H X vs) (he : H.rd es = some (.list us)) (hus : Rows w H E us) (hlv : vs.length = n) (hlu : us.length = n) (hn : n ≤ 1000)
    (hc : H.rd c = some (LN (dg (2 ^ w) m))) (hX : ∀ i, i < n → X i < 2 ^ 60) (hE : ∀ i, i < n → E i < 2 ^ 60) (m0 : 0 < m) (hm : m < 2 ^ 40)
    (k : RetO H (dg (2 ^ w) (pr X E n % m)) Q) : callP (gs W B) (D + 3) 353 [.ref bs, .ref es, .ref c, .int (w : Int), .ref 374, .ref 381] H Q := by
  refine' callP_defC (Wb := _) (hK := rfl) rfl rfl rfl rfl rfl [Str.ofString "bases", Str.ofString "exponents", Str.ofString "m", Str.ofString "w", Str.ofString "mul", Str.ofString "divrem"] [Str.ofString "found", Str.ofString "rests", Str.ofString "top", Str.ofString "e", Str.ofString "spot", Str.ofString "at"] (by decide) rfl ?hkind (by decide) ?hb ?hw [some (.ref bs), some (.ref es), some (.ref c), some (.int (w : Int)), some (.ref 374), some (.ref 381), none, none, none, none, none, none] rfl ?hv
  case hkind =>
    intro n y hy
    simp only [List.mem_cons, List.not_mem_nil, or_false] at hy
    rcases hy with rfl | rfl | rfl | rfl | rfl | rfl <;> first | exact Or.inl rfl | exact Or.inr ⟨rfl, rfl⟩
  case hb => exact fun vs hv => vrs_all (P := fun vs => bindArgs _ ⟨vs, []⟩ = pure (List.zip _ vs)) hv (fun _ _ _ _ _ _ => rfl)
  case' hw =>
    intro A L
    simp only [List.cons_append, List.nil_append]
  case' hv => skip
  case hw =>
    repeat' walk_at "tr"
    refine' tr_comp (cl := [(Str.ofString "w", L + 2), (Str.ofString "m", L + 1), (Str.ofString "divrem", L + 3)]) (frs := [Str.ofString "divrem", Str.ofString "m", Str.ofString "w"]) (fi := [5, 2, 3]) ?K ?hI ?he
    case hI => repeat' walk_at "tr"
    case K =>
      refine ⟨rfl, by decide, rfl, by decide, rfl, ?_, ?_, ?_, ?_, rfl, by decide, ?_⟩
      · intro y c hm
        simp only [List.mem_cons, List.not_mem_nil, or_false, Prod.mk.injEq] at hm
        rcases hm with ⟨rfl, rfl⟩ | ⟨rfl, rfl⟩ | ⟨rfl, rfl⟩ <;> exact ⟨rfl, by decide⟩
      · simp
      · intro C y hy
        simp only [List.mem_cons, List.not_mem_nil, or_false] at hy
        rcases hy with rfl | rfl | rfl <;> exact ⟨.inl rfl, rfl⟩
      · intro k y hk
        match k, hk with
        | 0, hk => cases hk; exact ⟨_, rfl, rfl⟩
        | 1, hk => cases hk; exact ⟨_, rfl, rfl⟩
        | 2, hk => cases hk; exact ⟨_, rfl, rfl⟩
      · intro y hy
        simp only [List.mem_cons, List.not_mem_nil, or_false] at hy
        rcases hy with rfl | rfl | rfl <;> (show some NameKind.cell ≠ some NameKind.local; decide)
    case he =>
      intro C
      dsimp only [Fm.comp]
      repeat' walk_at "tr"
  case hv =>
    repeat' walk_at "vc"
    rename_i H1 s1 r2 H2 s2 n2 e2 o2
    have hb2 := (s1.trans s2).get hb
    have hc2 := (s1.trans s2).get hc
    refine vq_compA hb2 (by (first | lia | omega)) [some (.ref 381), some (.ref c), some (.int (w : Int))] rfl (fun j acc H' => Sb H2 H' ∧ Rows w H' (fun i => X i % m) acc) (fun H' e => ⟨fun b bo z => by rw [e]; exact z, fun i av z => by simp at z⟩) ?_ ?_
    · rintro j v acc H3 hv hac ⟨s3, hr3⟩
      have hj : j < vs.length := (List.getElem?_eq_some_iff.mp hv).1
      first
        | (refine ex1 (hvs j v hv) fun r hh1 => ?_; refine an2 hh1 fun hr0 er => ?_; clear hh1; subst hr0)
        | (refine an3 (hvs j v hv) fun r hr0 er => ?_; subst hr0)
        | obtain ⟨r, rfl, er⟩ := hvs j v hv
      have er3 := s3.get ((s1.trans s2).get er)
      have hXj := hX j (by (first | lia | omega))
      have hc3 := s3.get hc2
      repeat' walk_at "vc"
      rename_i t4 p4 q4 H4 s4 e41 e42 e43
      refine ⟨rfl, s3.trans s4.sb, fun i av hi => ?_⟩
      by_cases hia : i < acc.length
      · rw [List.getElem?_append_left hia] at hi
        exact hr3.mono s4.sb i av hi
      · rw [List.getElem?_append_right (by (first | lia | omega))] at hi
        have hi2 : i - acc.length = 0 := by
          have := (List.getElem?_eq_some_iff.mp hi).1
          simp at this; (first | lia | omega)
        rw [hi2] at hi
        cases hi
        have : i = j := by (first | lia | omega)
        subst this
        exact ⟨q4, rfl, e43⟩
    rintro acc H3 hac ⟨s3, hr3⟩
    have s03 := (s1.trans s2).sb.trans s3
    repeat' walk_at "vc"
    rename_i rq H4 s4 n4 e4 o4
    have s04 := s03.trans s4.sb
    have hr4 := hr3.mono s4.sb
    refine vq_forA (s04.get he) (fun j σ => ∃ H' t o, σ = ⟨[some (.ref bs), some (.ref es), some (.ref c), some (.int (w : Int)), some (.ref 374), some (.ref 381), some (.ref r2), some (.ref rq), some (.int ((t : Nat) : Int)), o, none, none], H'⟩ ∧ Sb H4 H' ∧ t ≤ 60 ∧ ∀ i, i < j → bl (E i) ≤ t)
      (fun H' e => ?_) ?_ ?_
    · intro _
      first | exact exI3 H' 0 _ ⟨rfl, fun b bo z => by rw [e]; exact z, by (first | lia | omega), fun i hi => by (first | lia | omega)⟩ | exact ⟨H', 0, _, rfl, fun b bo z => by rw [e]; exact z, by (first | lia | omega), fun i hi => by (first | lia | omega)⟩
    · intro j v σ hv hh0
      first
        | (refine ex3 hh0 fun H5 t o hh1 => ?_; refine an4 hh1 fun hr0 s5 ht hI => ?_; clear hh1 hh0; subst hr0)
        | (refine an7 hh0 fun H5 t o hr0 s5 ht hI => ?_; clear hh0; subst hr0)
        | (refine ex1 hh0 fun H5 hh1 => ?_; refine an6 hh1 fun t o hr0 s5 ht hI => ?_; clear hh1 hh0; subst hr0)
        | (refine ex2 hh0 fun H5 t hh1 => ?_; refine an5 hh1 fun o hr0 s5 ht hI => ?_; clear hh1 hh0; subst hr0)
        | obtain ⟨H5, t, o, rfl, s5, ht, hI⟩ := hh0
      have hj : j < us.length := (List.getElem?_eq_some_iff.mp hv).1
      first
        | (refine ex1 (hus j v hv) fun r hh1 => ?_; refine an2 hh1 fun hr0 er => ?_; clear hh1; subst hr0)
        | (refine an3 (hus j v hv) fun r hr0 er => ?_; subst hr0)
        | obtain ⟨r, rfl, er⟩ := hus j v hv
      have er5 := (s04.trans s5).get er
      have hEj := hE j (by (first | lia | omega))
      have hbj := bl_le hEj
      repeat' walk_at "vc"
      rename_i H6 s6
      first | refine exI3 H6 _ _ ⟨rfl, s5.trans s6.sb, by (first | lia | omega), fun i hi => ?_⟩ | refine ⟨H6, _, _, rfl, s5.trans s6.sb, by (first | lia | omega), fun i hi => ?_⟩
      by_cases hij : i = j
      · subst hij; (first | lia | omega)
      · have := hI i (by (first | lia | omega)); (first | lia | omega)
    intro σ hh0
    first
      | (refine ex3 hh0 fun H5 t o hh1 => ?_; refine an4 hh1 fun hr0 s5 ht hI => ?_; clear hh1 hh0; subst hr0)
      | (refine an7 hh0 fun H5 t o hr0 s5 ht hI => ?_; clear hh0; subst hr0)
      | (refine ex1 hh0 fun H5 hh1 => ?_; refine an6 hh1 fun t o hr0 s5 ht hI => ?_; clear hh1 hh0; subst hr0)
      | (refine ex2 hh0 fun H5 t hh1 => ?_; refine an5 hh1 fun o hr0 s5 ht hI => ?_; clear hh1 hh0; subst hr0)
      | obtain ⟨H5, t, o, rfl, s5, ht, hI⟩ := hh0
    repeat' walk_at "vc"
    have s05 := s04.trans s5
    have hlt : ∀ i, i < n → E i < 2 ^ t := fun i hi => Nat.lt_of_lt_of_le (bl_lt (E i)) (Nat.pow_le_pow_right (by decide) (hI i (by (first | lia | omega))))
    refine vq_rangeD 0 t (by (first | lia | omega)) (by (first | lia | omega)) (by (first | lia | omega)) (vq_forD (fun j σ => ∃ H' r o1 o2 o3, σ = ⟨[some (.ref bs), some (.ref es), some (.ref c), some (.int (w : Int)), some (.ref 374), some (.ref 381), some (.ref r), some (.ref rq), some (.int ((t : Nat) : Int)), o1, o2, o3], H'⟩ ∧ Sb H5 H' ∧ H'.rd r = some (LN (dg (2 ^ w) (pr X (fun i => E i / 2 ^ (t - j)) n % m))))
      ⟨H5, r2, _, _, _, rfl, .refl, ?_⟩ ?_ ?_)
    · rw [Nat.sub_zero, pr_zero X _ n fun i hi => Nat.div_eq_of_lt (hlt i hi)]
      exact ((s3.trans s4.sb).trans s5).get e2
    · intro j σ hj hh0
      first
        | (refine ex5 hh0 fun H6 r u1 u2 u3 hh1 => ?_; refine an3 hh1 fun hr0 s6 e6 => ?_; clear hh1 hh0; subst hr0)
        | (refine an8 hh0 fun H6 r u1 u2 u3 hr0 s6 e6 => ?_; clear hh0; subst hr0)
        | (refine ex1 hh0 fun H6 hh1 => ?_; refine an7 hh1 fun r u1 u2 u3 hr0 s6 e6 => ?_; clear hh1 hh0; subst hr0)
        | (refine ex2 hh0 fun H6 r hh1 => ?_; refine an6 hh1 fun u1 u2 u3 hr0 s6 e6 => ?_; clear hh1 hh0; subst hr0)
        | (refine ex3 hh0 fun H6 r u1 hh1 => ?_; refine an5 hh1 fun u2 u3 hr0 s6 e6 => ?_; clear hh1 hh0; subst hr0)
        | (refine ex4 hh0 fun H6 r u1 u2 hh1 => ?_; refine an4 hh1 fun u3 hr0 s6 e6 => ?_; clear hh1 hh0; subst hr0)
        | obtain ⟨H6, r, u1, u2, u3, rfl, s6, e6⟩ := hh0
      rw [show 0 + t - 1 - j = t - (j + 1) by (first | lia | omega)]
      have m1 : pr X (fun i => E i / 2 ^ (t - j)) n % m < m := Nat.mod_lt _ m0
      have m2 : pr X (fun i => E i / 2 ^ (t - j)) n % m * (pr X (fun i => E i / 2 ^ (t - j)) n % m) < 2 ^ 40 * 2 ^ 40 := Nat.mul_lt_mul'' (by (first | lia | omega)) (by (first | lia | omega))
      have hsq : pr X (fun i => E i / 2 ^ (t - j)) n % m * (pr X (fun i => E i / 2 ^ (t - j)) n % m) % m = pr X (fun i => 2 * (E i / 2 ^ (t - j))) n % m := by
        rw [← Nat.mul_mod, ← pr_add, pr_congr X _ _ n fun i _ => (Nat.two_mul _).symm]
      have s06 := s05.trans s6
      have hc6 := s06.get hc
      repeat' walk_at "vc"
      rename_i r7 H7 s7 n7 e7 o7 t8 p8 q8 H8 s8 e81 e82 e83
      rw [hsq] at e83
      have s08 := (s06.trans s7.sb).trans s8.sb
      refine vq_forEA (s08.get he) (fun i σ => ∃ H' r o1 o3, σ = ⟨[some (.ref bs), some (.ref es), some (.ref c), some (.int (w : Int)), some (.ref 374), some (.ref 381), some (.ref r), some (.ref rq), some (.int ((t : Nat) : Int)), o1, some (.int ((t - (j + 1) : Nat) : Int)), o3], H'⟩ ∧ Sb H8 H' ∧ H'.rd r = some (LN (dg (2 ^ w) (pr X (fun i => 2 * (E i / 2 ^ (t - j))) n * pr X (fun i => E i / 2 ^ (t - (j + 1)) % 2) i % m))))
        (fun H' e _ => ⟨H', q8, _, _, rfl, fun b bo z => by rw [e]; exact z, by
          show H'.rd q8 = some (LN (dg (2 ^ w) (_ * 1 % m)))
          rw [Nat.mul_one, e]; exact e83⟩) ?_ ?_
      · intro i v σ hv hh0
        first
          | (refine ex4 hh0 fun H9 r9 u4 u5 hh1 => ?_; refine an3 hh1 fun hr0 s9 e9 => ?_; clear hh1 hh0; subst hr0)
          | (refine an7 hh0 fun H9 r9 u4 u5 hr0 s9 e9 => ?_; clear hh0; subst hr0)
          | (refine ex1 hh0 fun H9 hh1 => ?_; refine an6 hh1 fun r9 u4 u5 hr0 s9 e9 => ?_; clear hh1 hh0; subst hr0)
          | (refine ex2 hh0 fun H9 r9 hh1 => ?_; refine an5 hh1 fun u4 u5 hr0 s9 e9 => ?_; clear hh1 hh0; subst hr0)
          | (refine ex3 hh0 fun H9 r9 u4 hh1 => ?_; refine an4 hh1 fun u5 hr0 s9 e9 => ?_; clear hh1 hh0; subst hr0)
          | obtain ⟨H9, r9, u4, u5, rfl, s9, e9⟩ := hh0
        have hi : i < us.length := (List.getElem?_eq_some_iff.mp hv).1
        first
          | (refine ex1 (hus i v hv) fun rE hh1 => ?_; refine an2 hh1 fun hr0 erE => ?_; clear hh1; subst hr0)
          | (refine an3 (hus i v hv) fun rE hr0 erE => ?_; subst hr0)
          | obtain ⟨rE, rfl, erE⟩ := hus i v hv
        have s09 := s08.trans s9
        have erE9 := s09.get erE
        have hEi := hE i (by (first | lia | omega))
        have hac : i < acc.length := by (first | lia | omega)
        first
          | (refine an3 (hr4 i _ (List.getElem?_eq_getElem hac)) fun rX hX1 hX2 => ?_)
          | (refine ex1 (hr4 i _ (List.getElem?_eq_getElem hac)) fun rX hh1 => ?_; refine an2 hh1 fun hX1 hX2 => ?_; clear hh1)
          | obtain ⟨rX, hX1, hX2⟩ := hr4 i _ (List.getElem?_eq_getElem hac)
        have s49 := ((((s5.trans s6).trans s7.sb).trans s8.sb).trans s9)
        have hc9 := s09.get hc
        have hrq9 := s49.get e4
        have hX9 := s49.get hX2
        have hsucc : pr X (fun i => E i / 2 ^ (t - (j + 1)) % 2) (i + 1) = pr X (fun i => E i / 2 ^ (t - (j + 1)) % 2) i * X i ^ (E i / 2 ^ (t - (j + 1)) % 2) := rfl
        generalize pr X (fun i => E i / 2 ^ (t - (j + 1)) % 2) i = pO at *
        generalize pr X (fun i => 2 * (E i / 2 ^ (t - j))) n = p2 at *
        have m3 : p2 * pO % m < m := Nat.mod_lt _ m0
        have m4 : X i % m < m := Nat.mod_lt _ m0
        have m5 : p2 * pO % m * (X i % m) < 2 ^ 40 * 2 ^ 40 := Nat.mul_lt_mul'' (by (first | lia | omega)) (by (first | lia | omega))
        repeat' walk_at "vc"
        · rename_i Ha sa g
          refine vc_idx (sa.get hrq9) (atI_at (i := i) (z := .ref rX) (by rw [List.getElem?_eq_getElem hac, hX1])) (by (first | lia | omega)) ?_
          repeat' walk_at "vc"
          rename_i rb Hb sb nb eb ob tc pc qc Hc sc ec1 ec2 ec3
          first | refine exI4 Hc qc _ _ ⟨rfl, ((s9.trans sa.sb).trans sb.sb).trans sc.sb, ?_⟩ | refine ⟨Hc, qc, _, _, rfl, ((s9.trans sa.sb).trans sb.sb).trans sc.sb, ?_⟩
          rw [← Nat.mul_mod] at ec3
          rw [hsucc, g, Nat.pow_one, ← Nat.mul_assoc]; exact ec3
        · rename_i Ha sa g
          have g0 : E i / 2 ^ (t - (j + 1)) % 2 = 0 := by (first | lia | omega)
          first | refine exI4 Ha r9 _ _ ⟨rfl, s9.trans sa.sb, ?_⟩ | refine ⟨Ha, r9, _, _, rfl, s9.trans sa.sb, ?_⟩
          rw [hsucc, g0, Nat.pow_zero, Nat.mul_one]; exact sa.get e9
      · intro σ hh0
        first
          | (refine ex4 hh0 fun H9 r9 u4 u5 hh1 => ?_; refine an3 hh1 fun hr0 s9 e9 => ?_; clear hh1 hh0; subst hr0)
          | (refine an7 hh0 fun H9 r9 u4 u5 hr0 s9 e9 => ?_; clear hh0; subst hr0)
          | (refine ex1 hh0 fun H9 hh1 => ?_; refine an6 hh1 fun r9 u4 u5 hr0 s9 e9 => ?_; clear hh1 hh0; subst hr0)
          | (refine ex2 hh0 fun H9 r9 hh1 => ?_; refine an5 hh1 fun u4 u5 hr0 s9 e9 => ?_; clear hh1 hh0; subst hr0)
          | (refine ex3 hh0 fun H9 r9 u4 hh1 => ?_; refine an4 hh1 fun u5 hr0 s9 e9 => ?_; clear hh1 hh0; subst hr0)
          | obtain ⟨H9, r9, u4, u5, rfl, s9, e9⟩ := hh0
        repeat' walk_at "vc"
        first | refine exI5 H9 r9 _ _ _ ⟨rfl, ((s6.trans s7.sb).trans s8.sb).trans s9, ?_⟩ | refine ⟨H9, r9, _, _, _, rfl, ((s6.trans s7.sb).trans s8.sb).trans s9, ?_⟩
        rw [hlu, ← pr_add, pr_congr X _ (fun i => E i / 2 ^ (t - (j + 1))) n fun i _ => ?_] at e9
        · exact e9
        · have := div_next (E i) (t - (j + 1))
          rw [show t - (j + 1) + 1 = t - j by (first | lia | omega)] at this
          exact this.symm
    · intro σ hh0
      first
        | (refine ex5 hh0 fun H6 r u1 u2 u3 hh1 => ?_; refine an3 hh1 fun hr0 s6 e6 => ?_; clear hh1 hh0; subst hr0)
        | (refine an8 hh0 fun H6 r u1 u2 u3 hr0 s6 e6 => ?_; clear hh0; subst hr0)
        | (refine ex1 hh0 fun H6 hh1 => ?_; refine an7 hh1 fun r u1 u2 u3 hr0 s6 e6 => ?_; clear hh1 hh0; subst hr0)
        | (refine ex2 hh0 fun H6 r hh1 => ?_; refine an6 hh1 fun u1 u2 u3 hr0 s6 e6 => ?_; clear hh1 hh0; subst hr0)
        | (refine ex3 hh0 fun H6 r u1 hh1 => ?_; refine an5 hh1 fun u2 u3 hr0 s6 e6 => ?_; clear hh1 hh0; subst hr0)
        | (refine ex4 hh0 fun H6 r u1 u2 hh1 => ?_; refine an4 hh1 fun u3 hr0 s6 e6 => ?_; clear hh1 hh0; subst hr0)
        | obtain ⟨H6, r, u1, u2, u3, rfl, s6, e6⟩ := hh0
      rw [Nat.sub_self, pr_congr X _ E n fun i _ => by rw [Nat.pow_zero, Nat.div_one]] at e6
      repeat' walk_at "vc"
      exact k.done (s05.trans s6) e6
end
section
variable {W : World} {B : Heap} {D : Nat} {H : Hp} {Q : AV → Hp → Prop} {w : Nat}
noncomputable def IsBox (H : Hp) (b : Addr) (n : Nat) : Prop := ∃ (q : Nat) (cs : Addr) (s : Nat) (ns : List Int), H.rd b = some (.list [.int ((q : Int) - ((1 : Nat) : Int)), .ref cs, .int (s : Int)]) ∧ H.own b ∧ H.rd cs = some (.list (ns.map .int)) ∧ q ≤ n ∧ s < 2 ^ 64 ∧ ns.length ≤ 24
theorem law_box_ok {a : Addr} {ns : List Int} (ha : H.rd a = some (.list (ns.map .int))) (hl : ns.length ≤ 1000) (k : ∀ b H', H.Sub H' → H.rd b = none → IsBox H' b 0 → Q (.ref b) H') : callP (gs W B) (D + 1) 400 [.ref a, .int ((24 : Nat) : Int)] H Q := by
  refine' callP_defC (Wb := _) (hK := rfl) rfl rfl rfl rfl rfl [Str.ofString "script", Str.ofString "many"] [Str.ofString "box", Str.ofString "cell"] (by decide) rfl ?hkind (by decide) ?hb ?hw [some (.ref a), some (.int ((24 : Nat) : Int)), none, none] rfl ?hv
  case hkind =>
    intro n y hy
    simp only [List.mem_cons, List.not_mem_nil, or_false] at hy
    rcases hy with rfl | rfl <;> first | exact Or.inl rfl | exact Or.inr ⟨rfl, rfl⟩
  case hb => exact fun vs hv => vrs_all (P := fun vs => bindArgs _ ⟨vs, []⟩ = pure (List.zip _ vs)) hv (fun _ _ => rfl)
  case hw =>
    intro A L
    simp only [List.cons_append, List.nil_append]
    repeat' walk_at "tr"
    refine' tr_comp (cl := []) (frs := []) (fi := []) ?K ?hI ?he
    case hI => repeat' walk_at "tr"
    case K =>
      refine ⟨rfl, by decide, rfl, by decide, rfl, ?_, .nil, ?_, ?_, rfl, by decide, ?_⟩
      · intro y c hm; cases hm
      · intro C y hy; cases hy
      · intro k y hk; simp at hk
      · intro y hy; cases hy
    case he =>
      intro C
      dsimp only [Fm.comp]
      repeat' walk_at "tr"
  case hv =>
    repeat' walk_at "vc"
    refine vc_cutT ha (by simp; (first | lia | omega)) (by (first | lia | omega)) (vc_new fun q1 H1 s1 n1 e1 o1 => ?_)
    rw [show (((24 : Nat) : Int)).toNat = 24 from rfl, ← List.map_take] at e1
    have hl1 : (ns.take 24).length ≤ 24 := by simp; (first | lia | omega)
    generalize ns.take 24 = ms at *
    refine vq_compA e1 (by simp; (first | lia | omega)) [] rfl (fun j acc H' => Sb H1 H' ∧ acc = (ms.take j).map AV.int) (fun H' e => ⟨fun b bo z => by rw [e]; exact z, rfl⟩) ?_ ?_
    · rintro j v acc H3 hv hac ⟨s3, rfl⟩
      rw [List.getElem?_map] at hv
      first
        | (refine ex2 (Option.map_eq_some_iff.mp hv) fun x hx hr0 => ?_; subst hr0)
        | (refine an3 (Option.map_eq_some_iff.mp hv) fun x hx hr0 => ?_; subst hr0)
        | (refine ex1 (Option.map_eq_some_iff.mp hv) fun x hh1 => ?_; refine an2 hh1 fun hx hr0 => ?_; clear hh1; subst hr0)
        | obtain ⟨x, hx, rfl⟩ := Option.map_eq_some_iff.mp hv
      repeat' walk_at "vc"
      refine ⟨rfl, s3, ?_⟩
      rw [List.take_add_one, hx, List.map_append]; rfl
    rintro acc H3 hac ⟨s3, rfl⟩
    rw [List.length_map, List.take_length]
    repeat' walk_at "vc"
    rename_i cs H4 s4 n4 e4 o4 b H5 s5 n5 e5 o5
    have nb : H.rd b = none := ((s1.sb.trans s3).trans s4.sb).none' n5
    have ncs : cs ≠ b := ne_of_rd e4 n5
    have hs5 := ((s1.sb.trans s3).trans s4.sb).trans s5.sb
    refine vc_idx e5 (atI_at rfl) (by (first | lia | omega)) (vq_forA (s5.get e4) (fun j σ => ∃ H' s o, σ = ⟨[some (.ref a), some (.int ((24 : Nat) : Int)), some (.ref b), o], H'⟩ ∧ (∀ f ao, f ≠ b → H5.rd f = some ao → H'.rd f = some ao) ∧ H'.rd b = some (.list [.int (-((1 : Nat) : Int)), .ref cs, .int ((s : Nat) : Int)]) ∧ H'.own b ∧ s < 2 ^ 64) (fun H' e eo => ⟨H', 7, _, rfl, fun f ao n z => by rw [e]; exact z, by rw [e]; exact e5, eo _ (Ne.symm ncs) o5, by decide⟩) ?_ ?_)
    · intro j v σ hv hh0
      first
        | (refine ex3 hh0 fun H6 s o hh1 => ?_; refine an5 hh1 fun hr0 h6 e6 o6 hs => ?_; clear hh1 hh0; subst hr0)
        | (refine an8 hh0 fun H6 s o hr0 h6 e6 o6 hs => ?_; clear hh0; subst hr0)
        | (refine ex1 hh0 fun H6 hh1 => ?_; refine an7 hh1 fun s o hr0 h6 e6 o6 hs => ?_; clear hh1 hh0; subst hr0)
        | (refine ex2 hh0 fun H6 s hh1 => ?_; refine an6 hh1 fun o hr0 h6 e6 o6 hs => ?_; clear hh1 hh0; subst hr0)
        | obtain ⟨H6, s, o, rfl, h6, e6, o6, hs⟩ := hh0
      rw [List.getElem?_map] at hv
      first
        | (refine ex2 (Option.map_eq_some_iff.mp hv) fun x hx hr0 => ?_; subst hr0)
        | (refine an3 (Option.map_eq_some_iff.mp hv) fun x hx hr0 => ?_; subst hr0)
        | (refine ex1 (Option.map_eq_some_iff.mp hv) fun x hh1 => ?_; refine an2 hh1 fun hx hr0 => ?_; clear hh1; subst hr0)
        | obtain ⟨x, hx, rfl⟩ := Option.map_eq_some_iff.mp hv
      repeat' walk_at "vc"
      refine vc_idx e6 (atI_at rfl) (by (first | lia | omega)) ?_
      repeat' walk_at "vc"
      refine vc_set e6 o6 (by (first | lia | omega)) (by simp) (by simp) fun H7 t7 => ?_
      repeat' walk_at "vc"
      first | refine exI3 H7 _ _ ⟨rfl, fun f ao n z => (t7.off f n).trans (h6 f ao n z), t7.at_, (t7.own b).mpr o6, Nat.mod_lt _ (by decide)⟩ | refine ⟨H7, _, _, rfl, fun f ao n z => (t7.off f n).trans (h6 f ao n z), t7.at_, (t7.own b).mpr o6, Nat.mod_lt _ (by decide)⟩
    · intro σ hh0
      first
        | (refine ex3 hh0 fun H6 s o hh1 => ?_; refine an5 hh1 fun hr0 h6 e6 o6 hs => ?_; clear hh1 hh0; subst hr0)
        | (refine an8 hh0 fun H6 s o hr0 h6 e6 o6 hs => ?_; clear hh0; subst hr0)
        | (refine ex1 hh0 fun H6 hh1 => ?_; refine an7 hh1 fun s o hr0 h6 e6 o6 hs => ?_; clear hh1 hh0; subst hr0)
        | (refine ex2 hh0 fun H6 s hh1 => ?_; refine an6 hh1 fun o hr0 h6 e6 o6 hs => ?_; clear hh1 hh0; subst hr0)
        | obtain ⟨H6, s, o, rfl, h6, e6, o6, hs⟩ := hh0
      repeat' walk_at "vc"
      refine k b _ (Hp.back_sub fun f ao z => h6 f ao (fun q => by subst q; rw [nb] at z; cases z) (hs5 f ao z)) nb ⟨0, cs, s, ms, ?_, .inl ⟨o6, nb⟩, ?_, Nat.le_refl _, hs, hl1⟩
      · show H6.rd b = _
        rw [e6, show ((0 : Nat) : Int) - ((1 : Nat) : Int) = -((1 : Nat) : Int) by (first | lia | omega)]
      · exact h6 cs _ ncs (s5.get e4)
end
section
variable {W : World} {B : Heap} {D : Nat} {H : Hp} {Q : AV → Hp → Prop} {w : Nat}
theorem law_draw_ok {b : Addr} {n many : Nat} (hB : IsBox H b n) (hn : n ≤ 1000) (hm0 : 0 < many) (hm : many < 2 ^ 100) (k : ∀ r H', SubBut b H H' → IsBox H' b (n + 1) → r < many → Q (.int ((r : Nat) : Int)) H') : callP (gs W B) (D + 1) 388 [.ref b, .int (many : Int)] H Q := by
  first
    | (refine an10 hB fun q cs s ns e1 o1 e2 hq hs hl => ?_; clear hB)
    | (refine ex1 hB fun q hh1 => ?_; refine an9 hh1 fun cs s ns e1 o1 e2 hq hs hl => ?_; clear hh1 hB)
    | (refine ex2 hB fun q cs hh1 => ?_; refine an8 hh1 fun s ns e1 o1 e2 hq hs hl => ?_; clear hh1 hB)
    | (refine ex3 hB fun q cs s hh1 => ?_; refine an7 hh1 fun ns e1 o1 e2 hq hs hl => ?_; clear hh1 hB)
    | (refine ex4 hB fun q cs s ns hh1 => ?_; refine an6 hh1 fun e1 o1 e2 hq hs hl => ?_; clear hh1 hB)
    | (refine ex5 hB fun q cs s ns e1 hh1 => ?_; refine an5 hh1 fun o1 e2 hq hs hl => ?_; clear hh1 hB)
    | (refine ex6 hB fun q cs s ns e1 o1 hh1 => ?_; refine an4 hh1 fun e2 hq hs hl => ?_; clear hh1 hB)
    | obtain ⟨q, cs, s, ns, e1, o1, e2, hq, hs, hl⟩ := hB
  have ncs : cs ≠ b := fun z => by
    subst z; rw [e1] at e2
    have := congrArg (fun x => match x with | some (.list (_ :: .ref c :: _)) => true | _ => false) e2
    cases ns with
    | nil => simp at this
    | cons x r => cases r with
      | nil => simp at this
      | cons y t => simp at this
  refine' callP_def0 (Wb := _) (hK := rfl) rfl rfl rfl rfl rfl [Str.ofString "box", Str.ofString "many"] [] (by decide) rfl rfl rfl ?hb ?hw [some (.ref b), some (.int (many : Int))] rfl ?hv
  case hb => exact fun vs hv => vrs_all (P := fun vs => bindArgs _ ⟨vs, []⟩ = pure (List.zip _ vs)) hv (fun _ _ => rfl)
  case hw =>
    intro A L
    simp only [List.cons_append, List.nil_append]
    repeat' walk_at "tr"
  case' hv => skip
  repeat' walk_at "vc"
  refine vc_idx e1 (atI_at rfl) (by (first | lia | omega)) (vc_add ?_)
  rw [show ((q : Int) - ((1 : Nat) : Int) + ((1 : Nat) : Int)) = ((q : Nat) : Int) by (first | lia | omega)]
  repeat' walk_at "vc"
  refine vc_set e1 o1 (by (first | lia | omega)) (by simp) (by simp) fun H1 t1 => ?_
  have e11 : H1.rd b = some (.list [.int (q : Int), .ref cs, .int (s : Int)]) := t1.at_
  have e12 := t1.keep ncs e2
  have o11 := (t1.own b).mpr o1
  have hq1 : ((q : Nat) : Int) = ((q + 1 : Nat) : Int) - ((1 : Nat) : Int) := by (first | lia | omega)
  repeat' walk_at "vc"
  refine vc_idx e11 (atI_at rfl) (by (first | lia | omega)) ?_
  repeat' walk_at "vc"
  refine vc_idx e11 (atI_at rfl) (by (first | lia | omega)) ?_
  repeat' walk_at "vc"
  refine vc_len e12 (by simp; (first | lia | omega)) ?_
  rw [List.length_map]
  repeat' walk_at "vc"
  · rename_i g
    refine vc_idx e11 (atI_at rfl) (by (first | lia | omega)) ?_
    repeat' walk_at "vc"
    refine vc_idx e11 (atI_at rfl) (by (first | lia | omega)) ?_
    refine vc_idx e12 (atI_at (z := .int (ns[q]'g)) (by rw [List.getElem?_map, List.getElem?_eq_getElem g]; rfl)) (by (first | lia | omega)) ?_
    repeat' walk_at "vc"
    refine k _ _ (back_but (fun a ao h z => t1.keep h z) e1) ⟨q + 1, cs, s, ns, ?_, .inr o1, e12, by (first | lia | omega), hs, hl⟩ (Nat.mod_lt _ hm0)
    rw [← hq1]; exact e11
  · rename_i g
    refine vc_idx e11 (atI_at rfl) (by (first | lia | omega)) ?_
    repeat' walk_at "vc"
    refine vc_idx e11 (atI_at rfl) (by (first | lia | omega)) ?_
    repeat' walk_at "vc"
    refine vc_set e11 o11 (by (first | lia | omega)) (by simp) (by simp) fun H2 t2 => ?_
    have hs2 : (s * 6364136223846793005 + 1442695040888963407 + q) % 2 ^ 64 < 2 ^ 64 := Nat.mod_lt _ (by decide)
    have e21 : H2.rd b = some (.list [.int (q : Int), .ref cs, .int (((s * 6364136223846793005 + 1442695040888963407 + q) % 2 ^ 64 : Nat) : Int)]) := t2.at_
    generalize (s * 6364136223846793005 + 1442695040888963407 + q) % 2 ^ 64 = s2 at *
    have hfin : IsBox (H2.back H) b (n + 1) := by
      refine ⟨q + 1, cs, s2, ns, ?_, .inr o1, t2.keep ncs e12, by (first | lia | omega), hs2, hl⟩
      rw [← hq1]; exact e21
    have hbut : SubBut b H (H2.back H) := back_but (fun a ao h z => t2.keep h (t1.keep h z)) e1
    repeat' walk_at "vc"
    · refine vc_idx e21 (atI_at rfl) (by (first | lia | omega)) ?_
      repeat' walk_at "vc"
      exact k _ _ hbut hfin (Nat.mod_lt _ hm0)
    · refine vc_idx e21 (atI_at rfl) (by (first | lia | omega)) ?_
      repeat' walk_at "vc"
      refine vc_idx e21 (atI_at rfl) (by (first | lia | omega)) ?_
      repeat' walk_at "vc"
      exact k _ _ hbut hfin (Nat.mod_lt _ hm0)
theorem IsBox.back {H' : Hp} {b : Addr} {n : Nat} (h : IsBox H' b n) (s : SubBut b H H') {m : Nat} (h0 : IsBox H b m) : IsBox (H'.back H) b n ∧ SubBut b H (H'.back H) := by
  first
    | (refine an10 h fun q cs s' ns e1 o1 e2 hq hs hl => ?_; clear h)
    | (refine ex1 h fun q hh1 => ?_; refine an9 hh1 fun cs s' ns e1 o1 e2 hq hs hl => ?_; clear hh1 h)
    | (refine ex2 h fun q cs hh1 => ?_; refine an8 hh1 fun s' ns e1 o1 e2 hq hs hl => ?_; clear hh1 h)
    | (refine ex3 h fun q cs s' hh1 => ?_; refine an7 hh1 fun ns e1 o1 e2 hq hs hl => ?_; clear hh1 h)
    | (refine ex4 h fun q cs s' ns hh1 => ?_; refine an6 hh1 fun e1 o1 e2 hq hs hl => ?_; clear hh1 h)
    | (refine ex5 h fun q cs s' ns e1 hh1 => ?_; refine an5 hh1 fun o1 e2 hq hs hl => ?_; clear hh1 h)
    | (refine ex6 h fun q cs s' ns e1 o1 hh1 => ?_; refine an4 hh1 fun e2 hq hs hl => ?_; clear hh1 h)
    | obtain ⟨q, cs, s', ns, e1, o1, e2, hq, hs, hl⟩ := h
  first
    | (refine an7 h0 fun q0 cs0 s0' ns0 e10 o10 _ => ?_; clear h0)
    | (refine ex1 h0 fun q0 hh1 => ?_; refine an6 hh1 fun cs0 s0' ns0 e10 o10 _ => ?_; clear hh1 h0)
    | (refine ex2 h0 fun q0 cs0 hh1 => ?_; refine an5 hh1 fun s0' ns0 e10 o10 _ => ?_; clear hh1 h0)
    | (refine ex3 h0 fun q0 cs0 s0' hh1 => ?_; refine an4 hh1 fun ns0 e10 o10 _ => ?_; clear hh1 h0)
    | (refine ex4 h0 fun q0 cs0 s0' ns0 hh1 => ?_; refine an3 hh1 fun e10 o10 _ => ?_; clear hh1 h0)
    | (refine ex5 h0 fun q0 cs0 s0' ns0 e10 hh1 => ?_; refine an2 hh1 fun o10 _ => ?_; clear hh1 h0)
    | obtain ⟨q0, cs0, s0', ns0, e10, o10, _⟩ := h0
  exact ⟨⟨q, cs, s', ns, e1, .inr o10, e2, hq, hs, hl⟩, back_but s.1 e10⟩
theorem law_size_ok {b : Addr} {n most : Nat} (hw : 2 ≤ w ∧ w ≤ 9) (hB : IsBox H b n) (hn : n ≤ 900) (hm0 : 0 < most) (hm : most ≤ 3) (k : ∀ r H' n', SubBut b H H' → IsBox H' b n' → n' ≤ n + 3 → r < 2 ^ 27 → Q (.int ((r : Nat) : Int)) H') : callP (gs W B) (D + 2) 395 [.ref b, .int (w : Int), .int (most : Int)] H Q := by
  refine' callP_def0 (Wb := _) (hK := rfl) rfl rfl rfl rfl rfl [Str.ofString "box", Str.ofString "w", Str.ofString "most"] [Str.ofString "limbs", Str.ofString "form"] (by decide) rfl rfl rfl ?hb ?hw [some (.ref b), some (.int (w : Int)), some (.int (most : Int)), none, none] rfl ?hv
  case hb => exact fun vs hv => vrs_all (P := fun vs => bindArgs _ ⟨vs, []⟩ = pure (List.zip _ vs)) hv (fun _ _ _ => rfl)
  case hw =>
    intro A L
    simp only [List.cons_append, List.nil_append]
    repeat' walk_at "tr"
  case' hv => skip
  repeat' walk_at "vc"
  refine law_draw_ok (D := D) hB (by (first | lia | omega)) hm0 (by (first | lia | omega)) fun r1 H1 b1 hB1 hr1 => ?_
  repeat' walk_at "vc"
  refine law_draw_ok (D := D) hB1 (by (first | lia | omega)) (by decide) (by decide) fun r2 H2 b2 hB2 hr2 => ?_
  have hlw : w * (1 + r1) ≤ 9 * 3 := Nat.mul_le_mul hw.2 (by (first | lia | omega))
  have hlw2 : w * r1 + w = w * (1 + r1) := by rw [Nat.mul_add, Nat.mul_one, Nat.add_comm]
  have hp : 2 ^ (w * (1 + r1)) ≤ 2 ^ 27 := Nat.pow_le_pow_right (by decide) hlw
  have hp0 : 0 < 2 ^ (w * (1 + r1)) := Nat.pow_pos (by decide)
  have hlw3 : w * (1 + r1 - 1) ≤ 27 := by rw [Nat.add_sub_cancel_left]; (first | lia | omega)
  have hw1 : 1 ≤ w * (1 + r1) := by (first | lia | omega)
  have hp1 : 2 ^ (w * (1 + r1) - 1) ≤ 2 ^ 26 := Nat.pow_le_pow_right (by decide) (by (first | lia | omega))
  have hp2 : 2 ^ (w * (1 + r1 - 1)) ≤ 2 ^ 25 := Nat.pow_le_pow_right (by decide) (by rw [Nat.add_sub_cancel_left]; (first | lia | omega))
  have hfin : ∀ r, r < 2 ^ 27 → Q (.int ((r : Nat) : Int)) (H2.back H) := fun r hr => by
    obtain ⟨z1, z2⟩ := hB2.back (b1.trans b2) hB
    exact k r _ _ z2 z1 (by (first | lia | omega)) hr
  repeat' walk_at "vc"
  · exact hfin _ (by (first | lia | omega))
  · exact hfin _ (by (first | lia | omega))
  · rename_i z1 z2; exact absurd z1 z2
  · rename_i z1 z2; exact absurd z2 z1
  · rw [show (((2 ^ (w * (1 + r1 - 1)) : Nat) : Int) - (((0 : Nat) : Int) - ((1 : Nat) : Int))) = ((2 ^ (w * (1 + r1 - 1)) + 1 : Nat) : Int) by (first | lia | omega)]
    exact hfin _ (by (first | lia | omega))
  · exact hfin _ (by (first | lia | omega))
  · refine law_draw_ok (D := D) hB2 (by (first | lia | omega)) hp0 (by (first | lia | omega)) fun r3 H3 b3 hB3 hr3 => ?_
    repeat' walk_at "vc"
    obtain ⟨z1, z2⟩ := hB3.back ((b1.trans b2).trans b3) hB
    exact k r3 _ _ z2 z1 (by (first | lia | omega)) (by (first | lia | omega))
end
section
variable {W : World} {B : Heap} {D : Nat} {H : Hp} {Q : AV → Hp → Prop} {w : Nat}
noncomputable def RI (c i : Nat) (v : AV) (H : Hp) : Prop := v = .int ((c * i : Nat) : Int)
noncomputable def RS (s : Str) (i : Nat) (v : AV) (H : Hp) : Prop := v = .str (tms s i)
theorem times_int (c : Nat) (H : Hp) : TimesOk (gs W B) (D + 1) 421 H (RI c) := by
  refine ⟨fun i v H H' h _ => h, fun i v H H' q b vs x h _ _ _ => h, fun H l P _ h => fn_law_together h, ?_, ?_⟩
  · rintro i v H QB σ rfl h
    exact vc_isN_int h
  · rintro H x y i j Q s rfl rfl hij kk
    refine law_together_int_ok (D := D) fun H' s' => kk _ _ s' ?_
    show AV.int _ = AV.int _
    rw [← Int.natCast_add, ← Nat.mul_add]
theorem times_str (s : Str) (hs : s.length ≤ 10) (H : Hp) : TimesOk (gs W B) (D + 1) 421 H (RS s) := by
  refine ⟨fun i v H H' h _ => h, fun i v H H' q b vs x h _ _ _ => h, fun H l P _ h => fn_law_together h, ?_, ?_⟩
  · rintro i v H QB σ rfl h
    exact vc_isN_str h
  · rintro H x y i j Q s' rfl rfl hij kk
    refine law_together_str_ok (D := D) ?_ fun H' s'' => kk _ _ s'' ?_
    · rw [tms_len, tms_len, ← Nat.mul_add]
      exact Nat.le_trans (Nat.mul_le_mul hs hij) (by decide)
    · show AV.str _ = AV.str _
      rw [tms_add]
theorem vc_neS {x : Str} {QB : Bool → Stt → Prop} {σ : Stt} (k : QB false σ) : cmpC .NotEq (.str x) (.str x) QB σ := by
  show QB (x != x) σ
  rw [bne_self_eq_false]; exact k
theorem by_windows_all {R : Nat → AV → Hp → Prop} {H₀ : Hp} {f a : Addr} {base one : AV} {size E : Nat} (hw : 2 ≤ w ∧ w ≤ 9) (T : TimesOk (gs W B) (D + 1) f H₀ R) (hs : H₀.Sub H) (hb : R 1 base H) (ha : H.rd a = some (LN (dg (2 ^ w) E))) (hE : E < 2 ^ 10) (hz : 1 ≤ size ∧ size ≤ 8)
    (h1 : ∀ H', R 0 one H') (k : ∀ v H', H.Sub H' → R E v H' → Q v H') : callP (gs W B) (D + 3) 271 [base, .ref a, .int (size : Int), .int (w : Int), one, .ref f] H Q :=
  by_windows_ok hw T hs hb ha hE hz (fun h0 H' s => k one H' s (by rw [h0]; exact h1 H')) fun _ v H' s h => k v H' s h
theorem law_windows_ok {e size : Nat} (hw : 2 ≤ w ∧ w ≤ 9) (he : e < 2 ^ 10) (hz : 1 ≤ size ∧ size ≤ 8) (k : RetV H (.bool true) Q) : callP (gs W B) (D + 4) 426 [.int (e : Int), .int (size : Int), .int (w : Int)] H Q := by
  have he4 : e % 40 < 40 := Nat.mod_lt _ (by decide)
  refine' callP_defC (Wb := _) (hK := rfl) rfl rfl rfl rfl rfl [Str.ofString "e", Str.ofString "size", Str.ofString "w"] [Str.ofString "row"] (by decide) rfl ?hkind (by decide) ?hb ?hw [some (.int (e : Int)), some (.int (size : Int)), some (.int (w : Int)), none] rfl ?hv
  case hkind =>
    intro n y hy
    simp only [List.mem_cons, List.not_mem_nil, or_false] at hy
    rcases hy with rfl | rfl | rfl <;> first | exact Or.inl rfl | exact Or.inr ⟨rfl, rfl⟩
  case hb => exact fun vs hv => vrs_all (P := fun vs => bindArgs _ ⟨vs, []⟩ = pure (List.zip _ vs)) hv (fun _ _ _ => rfl)
  case' hw =>
    intro A L
    simp only [List.cons_append, List.nil_append]
  case' hv => skip
  case hw =>
    repeat' walk_at "tr"
    refine' tr_comp (cl := []) (frs := []) (fi := []) ?K ?hI ?he
    case hI => repeat' walk_at "tr"
    case K =>
      refine ⟨rfl, by decide, rfl, by decide, rfl, ?_, .nil, ?_, ?_, rfl, by decide, ?_⟩
      · intro y c hm; cases hm
      · intro C y hy; cases hy
      · intro k y hk; simp at hk
      · intro y hy; cases hy
    case he =>
      intro C
      dsimp only [Fm.comp]
      repeat' walk_at "tr"
  case hv =>
    repeat' walk_at "vc"
    rename_i q1 H1 s1 n1 e1 o1
    refine by_windows_all (D := D) hw (times_int (W := W) (B := B) (D := D) 3 H1) .refl rfl e1 he hz (fun _ => rfl) fun v H2 s2 hv => ?_
    cases hv
    repeat' walk_at "vc"
    · rename_i g; exact absurd rfl g
    rename_i _ q3 H3 s3 n3 e3 o3
    refine by_windows_all (D := D) (R := RS (Str.ofString "ab")) hw (times_str (W := W) (B := B) (D := D) (Str.ofString "ab") (by decide) H3) .refl (congrArg AV.str (tms_one _).symm) e3 (by (first | lia | omega)) hz (fun _ => rfl) fun v H4 s4 hv => ?_
    cases hv
    repeat' walk_at "vc"
    refine ⟨rfl, ⟨by (first | lia | omega), by (first | lia | omega)⟩, by decide, ?_⟩
    rw [mul_tms _ _ (by decide)]
    refine vc_neS ?_
    repeat' walk_at "vc"
    refine odd_powers_ok (D := D + 2) (times_int (W := W) (B := B) (D := D + 1) 5 H4) .refl rfl hz fun r5 H5 vs s5 e5 hl5 hv5 => ?_
    repeat' walk_at "vc"
    have hp0 : 2 ^ size = 2 * 2 ^ (size - 1) := by rw [← Nat.pow_succ']; congr 1; (first | lia | omega)
    have hp1 : 2 ^ (size - 1) ≤ 2 ^ 7 := Nat.pow_le_pow_right (by decide) (by (first | lia | omega))
    generalize hn : 2 ^ (size - 1) = n at *
    have hvs : vs = ((List.range n).map fun i => ((5 * (2 * i + 1) : Nat) : Int)).map AV.int := by
      refine List.ext_getElem? fun i => ?_
      by_cases hi : i < n
      · have h1 := List.getElem?_eq_getElem (show i < vs.length by (first | lia | omega))
        have h2 := hv5 i _ h1
        rw [h1, show vs[i] = _ from h2]
        simp [hi]
      · rw [List.getElem?_eq_none (by (first | lia | omega)), List.getElem?_eq_none (by simp; (first | lia | omega))]
    refine ⟨⟨by (first | lia | omega), by (first | lia | omega), by (first | lia | omega), by (first | lia | omega)⟩, .inr ⟨rfl, ?_⟩⟩
    rw [show ((((2 ^ size : Nat) : Int) - ((1 : Nat) : Int) + 1) / 2).toNat = n by (first | lia | omega)]
    refine ⟨by rw [rgL_length]; (first | lia | omega), fun j acc H' => Sb H5 H' ∧ acc = ((List.range j).map fun i => ((5 * (2 * i + 1) : Nat) : Int)).map AV.int, ⟨.refl, rfl⟩, ?_, ?_⟩
    · rintro j v acc H6 hj hac ⟨s6, rfl⟩
      have hjn : j < n := by
        have := (List.getElem?_eq_some_iff.mp hj).1
        rwa [rgL_length] at this
      rw [rgL_get hjn] at hj
      cases hj
      rw [show (((1 : Nat) : Int) + (j : Int) * 2) = ((2 * j + 1 : Nat) : Int) by (first | lia | omega)]
      repeat' walk_at "vc"
      refine ⟨rfl, s6, ?_⟩
      rw [List.range_succ, List.map_append, List.map_append]; rfl
    rintro acc H6 hac ⟨s6, rfl⟩
    rw [rgL_length]
    repeat' walk_at "vc"
    rename_i q7 H7 s7 n7 e7 o7
    rw [hvs] at e5
    refine vc_eqL ((s6.trans s7.sb).get e5) e7 ?_
    rw [decide_eq_true rfl]
    repeat' walk_at "vc"
    exact k.done (((((s1.trans s2).trans s3).trans s4).trans s5).sb.trans (s6.trans s7.sb))
end
section
variable {W : World} {B : Heap} {D : Nat} {H : Hp} {w : Nat}
noncomputable def lawNm : List Str := [Str.ofString "script", Str.ofString "box", Str.ofString "w", Str.ofString "x", Str.ofString "y", Str.ofString "z", Str.ofString "m", Str.ofString "d", Str.ofString "e", Str.ofString "f", Str.ofString "size", Str.ofString "row", Str.ofString "a", Str.ofString "b", Str.ofString "c", Str.ofString "one", Str.ofString "other", Str.ofString "third", Str.ofString "powers_told"]
noncomputable abbrev lawFm (W : World) (B : Heap) (D : Nat) (A : Around) (sc : Scope) (L lf : Addr) : Fm := ⟨gs W B, D, A, envOfC (Str.ofString "law") sc L lf (.ref 432), lawNm⟩
structure Drawn1 (w x y z m d e f size : Nat) : Prop where
  hw : 2 ≤ w ∧ w ≤ 9
  hx : x < 2 ^ 27
  hy : y < 2 ^ 27
  hz : z < 2 ^ 27
  hm0 : 0 < m
  hm : m < 2 ^ 28
  hd : d < 1024
  he : e < 2 ^ 10
  hf : f < 20
  hs : 1 ≤ size ∧ size ≤ 8
noncomputable def LawJ1 (sc : Addr) (H₀ : Hp) (f : AF) (σ : Stt) : Prop := f = .next ∧ ∃ (b rm ra rb rc : Addr) (w x y z m d e f size : Nat), Drawn1 w x y z m d e f size ∧ σ.loc = [some (.ref sc), some (.ref b), some (.int (w : Int)), some (.int (x : Int)), some (.int (y : Int)), some (.int (z : Int)), some (.int (m : Int)), some (.int (d : Int)), some (.int (e : Int)), some (.int (f : Int)), some (.int (size : Int)), some (.ref rm), some (.ref ra), some (.ref rb), some (.ref rc), some (.int ((x ^ d % m : Nat) : Int)), some (.int ((y ^ e % m : Nat) : Int)), some (.int ((z ^ f % m : Nat) : Int)), none] ∧
  H₀.Sub σ.H ∧ σ.H.rd rm = some (LN (dg (2 ^ w) m)) ∧ σ.H.rd ra = some (LN (dg (2 ^ w) x)) ∧ σ.H.rd rb = some (LN (dg (2 ^ w) y)) ∧ σ.H.rd rc = some (LN (dg (2 ^ w) z))
noncomputable def LawJ (H₀ : Hp) (f : AF) (σ : Stt) : Prop := f = .next ∧ ∃ (w e size : Nat) (ra rb : Addr), σ.loc[2]? = some (some (.int (w : Int))) ∧ σ.loc[8]? = some (some (.int (e : Int))) ∧ σ.loc[10]? = some (some (.int (size : Int))) ∧ σ.loc[12]? = some (some (.ref ra)) ∧ σ.loc[13]? = some (some (.ref rb)) ∧
  (2 ≤ w ∧ w ≤ 9) ∧ e < 2 ^ 10 ∧ (1 ≤ size ∧ size ≤ 8) ∧ (∃ ps, σ.H.rd 287 = some (.raw (tabObj ps))) ∧ (∃ ps, σ.H.rd 294 = some (.raw (tabObj ps))) ∧ σ.H.rd 428 = some (.raw (tabObj #[])) ∧ σ.H.own 287 ∧ σ.H.own 294 ∧ σ.H.own 428
set_option maxHeartbeats 4000000 in
theorem law_pre1 (W : World) (B : Heap) (D : Nat) (A : Around) (L lf : Addr) {sc : Addr} {ns : List Int} (hsc : H.rd sc = some (.list (ns.map .int))) (hl : ns.length ≤ 1000) :
    ∀ u, lawOf PySem.Challenge.rw_nn0037_01.row.prog = some u → ∀ pre post, Spl 8 u.1 pre post → (lawFm W B (D + 12) A u.2 L lf).Ok → ∀ s, Gd (lawFm W B (D + 12) A u.2 L lf) ⟨[some (.ref sc), none, none, none, none, none, none, none, none, none, none, none, none, none, none, none, none, none, none], H⟩ s →
      wpAny (lawFm W B (D + 12) A u.2 L lf).M A (execs pre (lawFm W B (D + 12) A u.2 L lf).env) (Pst (lawFm W B (D + 12) A u.2 L lf) FR (LawJ1 sc H) ⟨[some (.ref sc), none, none, none, none, none, none, none, none, none, none, none, none, none, none, none, none, none, none], H⟩ s) (fun _ _ => False) s := by
  refine' by_lit (h := rfl) ?_
  dsimp only
  refine' spl_lit (h := by repeat constructor) ?_
  intro ok s hg
  refine' (?tr : TrB _ _ ?W) ok _ _ _ hg ?vc
  case tr =>
    dsimp only [lawFm, lawNm]
    repeat' walk_at "tr"
  case vc =>
    repeat' walk_at "vc"
    refine law_box_ok (D := D + 11) hsc hl fun b H1 s1 nb hB1 => ?_
    repeat' walk_at "vc"
    refine law_draw_ok (D := D + 11) hB1 (by (first | lia | omega)) (by decide) (by decide) fun r2 H2 b2 hB2 hr2 => ?_
    repeat' walk_at "vc"
    have s2 := s1.bothBut nb b2
    obtain ⟨w, hwe⟩ : ∃ w, 2 + r2 = w := ⟨_, rfl⟩
    rw [hwe]
    have hw : 2 ≤ w ∧ w ≤ 9 := by (first | lia | omega)
    refine law_size_ok (D := D + 10) hw hB2 (by (first | lia | omega)) (by decide) (by decide) fun x H3 n3 b3 hB3 hn3 hx => ?_
    repeat' walk_at "vc"
    refine law_size_ok (D := D + 10) hw hB3 (by (first | lia | omega)) (by decide) (by decide) fun y H4 n4 b4 hB4 hn4 hy => ?_
    repeat' walk_at "vc"
    refine law_size_ok (D := D + 10) hw hB4 (by (first | lia | omega)) (by decide) (by decide) fun z H5 n5 b5 hB5 hn5 hz => ?_
    have s5 := ((s2.bothBut nb b3).bothBut nb b4).bothBut nb b5
    repeat' walk_at "vc"
    refine law_size_ok (D := D + 10) hw hB5 (by (first | lia | omega)) (by decide) (by decide) fun m' H6 n6 b6 hB6 hn6 hm' => ?_
    have s6 := s5.bothBut nb b6
    repeat' walk_at "vc"
    obtain ⟨m, hme⟩ : ∃ m, max m' 1 = m := ⟨_, rfl⟩
    rw [hme]
    have hm : m < 2 ^ 28 := by (first | lia | omega)
    have hm0 : 0 < m := by (first | lia | omega)
    refine law_draw_ok (D := D + 11) hB6 (by (first | lia | omega)) (by decide) (by decide) fun d H7 b7 hB7 hd => ?_
    repeat' walk_at "vc"
    refine law_draw_ok (D := D + 11) hB7 (by (first | lia | omega)) (by decide) (by decide) fun r8 H8 b8 hB8 hr8 => ?_
    have hp8 : 2 ^ r8 ≤ 2 ^ 10 := Nat.pow_le_pow_right (by decide) (by (first | lia | omega))
    have hp80 : 0 < 2 ^ r8 := Nat.pow_pos (by decide)
    repeat' walk_at "vc"
    refine law_draw_ok (D := D + 11) hB8 (by (first | lia | omega)) hp80 (by (first | lia | omega)) fun e H9 b9 hB9 he => ?_
    repeat' walk_at "vc"
    refine law_draw_ok (D := D + 11) hB9 (by (first | lia | omega)) (by decide) (by decide) fun f HA bA hBA hf => ?_
    repeat' walk_at "vc"
    refine law_draw_ok (D := D + 11) hBA (by (first | lia | omega)) (by decide) (by decide) fun rB HB bB hBB hrB => ?_
    have sB := ((((s6.bothBut nb b7).bothBut nb b8).bothBut nb b9).bothBut nb bA).bothBut nb bB
    repeat' walk_at "vc"
    rename_i rm HC sC nC eC oC ra HD sD nD eD oD rb HE sE nE eE oE rc HF sF nF eF oF
    refine ⟨by simp, vc_new fun tq HG sG nG eG oG => ?_⟩
    refine vq_tup eG rfl ?_
    repeat' walk_at "vc"
    rename_i HI sI HJ sJ HK sK
    have sEK := (((sF.trans sG).trans sI).trans sJ).trans sK
    refine ⟨rfl, b, rm, ra, rb, rc, w, x, y, z, m, d, e, f, _, ⟨hw, hx, hy, hz, hm0, hm, hd, by (first | lia | omega), hf, ?_⟩, rfl, ((((sB.trans sC).trans sD).trans sE).trans sEK), ((sD.trans sE).trans sEK).get eC, (sE.trans sEK).get eD, sEK.get eE, (((sG.trans sI).trans sJ).trans sK).get eF⟩
    (first | lia | omega)
end
section
variable {W : World} {B : Heap} {D : Nat} {H : Hp} {w : Nat}
set_option maxHeartbeats 4000000 in
theorem law_pre2 (W : World) (B : Heap) (D : Nat) (A : Around) (L lf sc b rm ra rb rc : Addr) {w x y z m d e f size : Nat} (dr : Drawn1 w x y z m d e f size) (emL : H.rd rm = some (LN (dg (2 ^ w) m))) (eaL : H.rd ra = some (LN (dg (2 ^ w) x))) (ebL : H.rd rb = some (LN (dg (2 ^ w) y))) (ecL : H.rd rc = some (LN (dg (2 ^ w) z)))
    (hP : H.rd 287 = some (.raw (tabObj #[]))) (hPo : H.own 287) (hP2 : H.rd 294 = some (.raw (tabObj #[]))) (hPo2 : H.own 294) (hP3 : H.rd 428 = some (.raw (tabObj #[]))) (hPo3 : H.own 428) :
    ∀ u, lawOf PySem.Challenge.rw_nn0037_01.row.prog = some u → ∀ pre post, Spl 8 u.1 pre post → ∀ pre2 post2, Spl 7 post pre2 post2 → (lawFm W B (D + 12) A u.2 L lf).Ok → ∀ s, Gd (lawFm W B (D + 12) A u.2 L lf) ⟨[some (.ref sc), some (.ref b), some (.int (w : Int)), some (.int (x : Int)), some (.int (y : Int)), some (.int (z : Int)), some (.int (m : Int)), some (.int (d : Int)), some (.int (e : Int)), some (.int (f : Int)), some (.int (size : Int)), some (.ref rm), some (.ref ra), some (.ref rb), some (.ref rc), some (.int ((x ^ d % m : Nat) : Int)), some (.int ((y ^ e % m : Nat) : Int)), some (.int ((z ^ f % m : Nat) : Int)), none], H⟩ s →
      wpAny (lawFm W B (D + 12) A u.2 L lf).M A (execs pre2 (lawFm W B (D + 12) A u.2 L lf).env) (Pst (lawFm W B (D + 12) A u.2 L lf) FR (LawJ H) ⟨[some (.ref sc), some (.ref b), some (.int (w : Int)), some (.int (x : Int)), some (.int (y : Int)), some (.int (z : Int)), some (.int (m : Int)), some (.int (d : Int)), some (.int (e : Int)), some (.int (f : Int)), some (.int (size : Int)), some (.ref rm), some (.ref ra), some (.ref rb), some (.ref rc), some (.int ((x ^ d % m : Nat) : Int)), some (.int ((y ^ e % m : Nat) : Int)), some (.int ((z ^ f % m : Nat) : Int)), none], H⟩ s) (fun _ _ => False) s := by
  first
    | (refine an10 dr fun hw hx hy hz hm0 hm hd he10 hf hsz => ?_; clear dr)
    | (refine ex1 dr fun hw hh1 => ?_; refine an9 hh1 fun hx hy hz hm0 hm hd he10 hf hsz => ?_; clear hh1 dr)
    | (refine ex2 dr fun hw hx hh1 => ?_; refine an8 hh1 fun hy hz hm0 hm hd he10 hf hsz => ?_; clear hh1 dr)
    | (refine ex3 dr fun hw hx hy hh1 => ?_; refine an7 hh1 fun hz hm0 hm hd he10 hf hsz => ?_; clear hh1 dr)
    | (refine ex4 dr fun hw hx hy hz hh1 => ?_; refine an6 hh1 fun hm0 hm hd he10 hf hsz => ?_; clear hh1 dr)
    | (refine ex5 dr fun hw hx hy hz hm0 hh1 => ?_; refine an5 hh1 fun hm hd he10 hf hsz => ?_; clear hh1 dr)
    | (refine ex6 dr fun hw hx hy hz hm0 hm hh1 => ?_; refine an4 hh1 fun hd he10 hf hsz => ?_; clear hh1 dr)
    | obtain ⟨hw, hx, hy, hz, hm0, hm, hd, he10, hf, hsz⟩ := dr
  refine' by_lit (h := rfl) ?_
  dsimp only
  refine' spl_lit (h := by repeat constructor) ?_
  refine' spl_lit (h := by repeat constructor) ?_
  intro ok s hg
  refine' (?tr : TrB _ _ ?W) ok _ _ _ hg ?vc
  case tr =>
    dsimp only [lawFm, lawNm]
    repeat' walk_at "tr"
  case vc =>
    have hone : x ^ d % m < m := Nat.mod_lt _ hm0
    have hoth : y ^ e % m < m := Nat.mod_lt _ hm0
    have hthi : z ^ f % m < m := Nat.mod_lt _ hm0
    repeat' walk_at "vc"
    rename_i rd HL sL nL eL oL
    refine ladder_ok (D := D + 9) hw (sL.get eaL) eL (sL.get emL) (by (first | lia | omega)) (by (first | lia | omega)) hm0 (by (first | lia | omega)) fun r1 HM sM eM => ?_
    repeat' walk_at "vc"
    rotate_left
    · rename_i g; exact absurd rfl g
    rename_i rN HN sN nN eN oN gN re HO sO nO eO oO
    have sLO := (sM.trans sN).trans sO
    have sHO := sL.trans sLO
    have hP' := sHO.get hP
    have hP2' := sHO.get hP2
    refine power_best_ok (D := D + 1) hw (sHO.get ebL) eO (sHO.get emL) (by (first | lia | omega)) he10 hm0 (by (first | lia | omega)) hP' (sHO.2.1 _ hPo) hP2' (sHO.2.1 _ hPo2) fun rP HP bP ⟨p1, t1⟩ ⟨p2, t2⟩ eP => ?_
    have kp : ∀ r ds, HO.rd r = some (LN ds) → HP.rd r = some (LN ds) := fun r ds h => bP.1 r _ (fun z => by subst z; rw [hP'] at h; cases h) (fun z => by subst z; rw [hP2'] at h; cases h) h
    have eaP := kp _ _ (sHO.get eaL)
    have ebP := kp _ _ (sHO.get ebL)
    have ecP := kp _ _ (sHO.get ecL)
    have emP := kp _ _ (sHO.get emL)
    have t3 := bP.1 428 _ (by decide) (by decide) (sHO.get hP3)
    have o1 := bP.2.1 287 (sHO.2.1 _ hPo)
    have o2 := bP.2.1 294 (sHO.2.1 _ hPo2)
    have o3 := bP.2.1 428 (sHO.2.1 _ hPo3)
    have hx1 : x ^ d % m * (y ^ e % m) % m < m := Nat.mod_lt _ hm0
    have hx1' : x ^ d % m * (y ^ e % m) % m < 2 ^ 200 := by (first | lia | omega)
    have hx2 : x ^ d % m * (y ^ e % m) < 2 ^ 40 * 2 ^ 40 := Nat.mul_lt_mul'' (by (first | lia | omega)) (by (first | lia | omega))
    have hx3 : x ^ d % m * (y ^ e % m) * (z ^ f % m) % m < m := Nat.mod_lt _ hm0
    have hx3' : x ^ d % m * (y ^ e % m) * (z ^ f % m) % m < 2 ^ 200 := by (first | lia | omega)
    have hx4 : 1 % m < 2 ^ 200 := Nat.lt_of_lt_of_le (Nat.mod_lt _ hm0) (by (first | lia | omega))
    repeat' walk_at "vc"
    rotate_left
    · rename_i g; exact absurd rfl g
    rename_i rQ HQ sQ nQ eQ oQ gQ rd2 HR sR nR eR oR re2 HS sS nS eS oS
    have sPS := (sQ.trans sR).trans sS
    refine two_powers_ok (D := D + 9) hw (sPS.get eaP) (sS.get eR) (sPS.get ebP) eS (sPS.get emP) (by (first | lia | omega)) (by (first | lia | omega)) (by (first | lia | omega)) (by (first | lia | omega)) hm0 (by (first | lia | omega)) fun r3 HT sT eT => ?_
    rw [Nat.mul_mod] at eT
    repeat' walk_at "vc"
    rotate_left
    · rename_i g; exact absurd rfl g
    rename_i rU HU sU nU eU oU gU rV HV sV nV eV oV rW HW sW nW eW oW rX HX sX nX eX oX qY HY sY nY eY oY qZ HZ sZ nZ eZ oZ
    have sPZ := ((((((sPS.trans sT).trans sU).trans sV).trans sW).trans sX).trans sY).trans sZ
    have sVZ := ((sW.trans sX).trans sY).trans sZ
    have h1 : x ^ d % m * (y ^ e % m) % m = x ^ d * y ^ e % m := (Nat.mul_mod _ _ _).symm
    have hpr : pr (fun i => [x, y, z].getD i 0) (fun i => [d, e, f].getD i 0) 3 % m = x ^ d % m * (y ^ e % m) * (z ^ f % m) % m := by
      show 1 * x ^ d * y ^ e * z ^ f % m = _
      rw [Nat.one_mul, Nat.mul_mod (x ^ d * y ^ e) (z ^ f) m, ← h1, Nat.mul_mod (x ^ d % m * (y ^ e % m)) (z ^ f % m) m, Nat.mod_mod (z ^ f) m]
    refine many_products_ok (D := D + 9) (X := fun i => [x, y, z].getD i 0) (E := fun i => [d, e, f].getD i 0) (n := 3) hw eZ ?_ (sZ.get eY) ?_ rfl rfl (by decide) (sPZ.get emP) ?_ ?_ hm0 (by (first | lia | omega)) fun r4 Ha sa ea => ?_
    · intro i av h
      match i, h with
      | 0, h => cases h; exact ⟨ra, rfl, sPZ.get eaP⟩
      | 1, h => cases h; exact ⟨rb, rfl, sPZ.get ebP⟩
      | 2, h => cases h; exact ⟨rc, rfl, sPZ.get ecP⟩
    · intro i av h
      match i, h with
      | 0, h => cases h; exact ⟨rV, rfl, sVZ.get eV⟩
      | 1, h => cases h; exact ⟨rW, rfl, ((sX.trans sY).trans sZ).get eW⟩
      | 2, h => cases h; exact ⟨rX, rfl, (sY.trans sZ).get eX⟩
    · intro i hi
      match i, hi with
      | 0, _ => show x < _; (first | lia | omega)
      | 1, _ => show y < _; (first | lia | omega)
      | 2, _ => show z < _; (first | lia | omega)
    · intro i hi
      match i, hi with
      | 0, _ => show d < _; (first | lia | omega)
      | 1, _ => show e < _; (first | lia | omega)
      | 2, _ => show f < _; (first | lia | omega)
    rw [hpr] at ea
    repeat' walk_at "vc"
    rotate_left
    · rename_i g; exact absurd rfl g
    rename_i rA HA sA nA eA oA gA qB HB sB nB eB oB qC HC sC nC eC oC
    have sPC := (((sPZ.trans sa).trans sA).trans sB).trans sC
    refine many_products_ok (D := D + 9) (X := fun _ => 0) (E := fun _ => 0) (n := 0) (vs := []) (us := []) hw (sC.get eB) (fun i av h => by simp at h) eC (fun i av h => by simp at h) rfl rfl (by decide) (sPC.get emP) (fun i hi => absurd hi (Nat.not_lt_zero _)) (fun i hi => absurd hi (Nat.not_lt_zero _)) hm0 (by (first | lia | omega)) fun r5 Hb sb eb => ?_
    replace eb : Hb.rd r5 = some (LN (dg (2 ^ w) (1 % m))) := eb
    repeat' walk_at "vc"
    rotate_left
    · rename_i g; exact absurd rfl g
    rename_i rF HF sF nF eF oF gF
    intro u1 HG sG hu1
    have hu11 := hu1.lo
    have hu18 := hu1.hi
    repeat' walk_at "vc"
    rotate_left
    · rename_i g; exact absurd hu18 g
    · rename_i g; exact absurd hu11 g
    intro u2 HI sI hu2
    repeat' walk_at "vc"
    intro u3 HJ sJ hu3
    have hmn := hu2.mono hu3 (by (first | lia | omega))
    repeat' walk_at "vc"
    · rename_i g; exact absurd g (by (first | lia | omega))
    have sAll := (((((sPC.trans sb).trans sF).trans sG).trans sI).trans sJ)
    first | exact exI7 rfl w e size ra rb rfl ⟨rfl, rfl, rfl, rfl, hw, he10, hsz, ⟨p1, sAll.get t1⟩, ⟨p2, sAll.get t2⟩, sAll.get t3, sAll.2.1 _ o1, sAll.2.1 _ o2, sAll.2.1 _ o3⟩ | exact ⟨rfl, w, e, size, ra, rb, rfl, rfl, rfl, rfl, rfl, hw, he10, hsz, ⟨p1, sAll.get t1⟩, ⟨p2, sAll.get t2⟩, sAll.get t3, sAll.2.1 _ o1, sAll.2.1 _ o2, sAll.2.1 _ o3⟩
end
section
variable {W : World} {B : Heap} {D : Nat} {H : Hp} {w : Nat}
theorem vc_varE {l : List (Option AV)} {H : Hp} {i : Nat} {v : AV} {Q : AV → Stt → Prop} (h : l[i]? = some (some v)) (k : Q v ⟨l, H⟩) : varK i Q ⟨l, H⟩ := by
  unfold varK; rw [show (Stt.mk l H).loc[i]? = some (some v) from h]; exact k
theorem cell_at {F : Fm} {σ : Stt} {s : Shared} (hg : Gd F σ s) {i : Nat} {x : Str} {av : AV} {c : Addr} (hn : F.nm[i]? = some x) (hv : σ.loc[i]? = some (some av)) (hk : F.env.kindOf x = some .cell) (hc : F.env.cells.lookup x = some c) : ∃ v o, VR v av ∧ s.heap.get? c = some o ∧ o.data = .cell (some v) := by
  first
    | (refine an3 (hg.ns) fun m hm hl => ?_)
    | (refine ex1 (hg.ns) fun m hh1 => ?_; refine an2 hh1 fun hm hl => ?_; clear hh1)
    | obtain ⟨m, hm, hl⟩ := hg.ns
  first
    | (refine an3 (hl i x av hn hv) fun v q1 q2 => ?_)
    | (refine ex1 (hl i x av hn hv) fun v hh1 => ?_; refine an2 hh1 fun q1 q2 => ?_; clear hh1)
    | obtain ⟨v, q1, q2⟩ := hl i x av hn hv
  rcases q2 with ⟨q2, _⟩ | ⟨_, c', q3, o, q4, q5⟩
  · rw [hk] at q2; cases q2
  · rw [hc] at q3; cases q3
    exact ⟨v, o, q1, q4, q5⟩
open Classical in
noncomputable def tabsHp (p2 p3 p1 : Array Value) : Hp := ⟨fun a => if a = 287 then some (.raw (tabObj p2)) else if a = 294 then some (.raw (tabObj p3)) else if a = 428 then some (.raw (tabObj p1)) else none, fun _ => False⟩
noncomputable def LawEnd (B : Heap) (f : Flow) (s s' : Shared) : Prop := (∃ v, f = .ret v ∧ v = .bool true) ∧ (∃ L m, Fr B L s'.heap m) ∧ (∃ ps, s'.heap.get? 287 = some (tabObj ps)) ∧ (∃ ps, s'.heap.get? 294 = some (tabObj ps)) ∧ (∃ ps, s'.heap.get? 428 = some (tabObj ps)) ∧ ∃ h' tk', s' = { s with heap := h', toks := tk' }
theorem law_tail (W : World) (B : Heap) (L lf : Addr) (RC : RefCall W B) {H₀ : Hp} :
    ∀ u, lawOf PySem.Challenge.rw_nn0037_01.row.prog = some u → ∀ pre post, Spl 15 u.1 pre post → (lawFm W B 12 (callerA.deeper (envOfC (Str.ofString "law") u.2 L lf (.ref 432))) u.2 L lf).Ok → ∀ σ s, Gd (lawFm W B 12 (callerA.deeper (envOfC (Str.ofString "law") u.2 L lf (.ref 432))) u.2 L lf) σ s → LawJ H₀ .next σ →
      wpAny (lawFm W B 12 (callerA.deeper (envOfC (Str.ofString "law") u.2 L lf (.ref 432))) u.2 L lf).M (callerA.deeper (envOfC (Str.ofString "law") u.2 L lf (.ref 432))) (execs post (lawFm W B 12 (callerA.deeper (envOfC (Str.ofString "law") u.2 L lf (.ref 432))) u.2 L lf).env) (fun f s' => LawEnd B f s s') (fun _ _ => False) s := by
  have hlam : ∃ v, lamOf PySem.Challenge.rw_nn0037_01.row.prog = some v := ⟨_, rfl⟩
  intro u hu
  have RC' := fun (u' : Arguments × Expr × Scope) (h' : lamOf PySem.Challenge.rw_nn0037_01.row.prog = some u') (fa c' : Addr) m hp gg dd tt os pm ctv oa ob ow oc ra rb wv tkw vs p1 p2 p3 tq Q E a1 a2 a3 a4 a5 a6 => RC L lf fa c' m hp gg dd tt os pm ctv oa ob ow oc ra rb wv tkw vs p1 p2 p3 tq Q E a1 a2 a3 a4 a5 a6 u' h' u hu
  clear RC
  revert RC'
  revert u
  refine' by_lit (h := rfl) ?_
  dsimp only
  intro RC
  refine' spl_lit (h := by repeat constructor) ?_
  replace RC := RC _ rfl
  dsimp only at RC
  intro ok σ s hg hJ
  obtain ⟨-, wv, e, size, ra, rb, l2, l8, l10, l12, l13, hw, he, hz, ⟨p2, t2⟩, ⟨p3, t3⟩, t1, o2, o3, o1⟩ := hJ
  obtain ⟨loc, Hs⟩ := σ
  dsimp only at l2 l8 l10 l12 l13 t1 t2 t3 o1 o2 o3
  refine wpAny_execs_cons (wpAny_If (wpAny_isTrue_Not (isTrue_plain (wp_call1 ok (tr_glob (by with_unfolding_all rfl) ns_law_refused) (trl_cons (tr_lamG 432 428 [(Str.ofString "w", L+1+1+1), (Str.ofString "b", L+1+1), (Str.ofString "a", L+1)] rfl (fun okg => codeHd_of_K okg.X rfl) rfl rfl) trl_nil) hg ?_) (by with_unfolding_all rfl))))
  refine fn_law_refused ?_
  refine ⟨t1, o1, fun fa c' co vs tq pm ctv H1 b1 d4 d5 hc' hfa ⟨p1, t1'⟩ nfa nc' rfa rc' => ?_⟩
  intro s2 fv vals g2 sst2 hfv hvals
  cases hfv
  cases hvals with
  | cons h1 h2 =>
  cases h1
  cases h2
  have hq : ∀ sc, (envOfC (Str.ofString "law") sc L lf (.ref 432)).qual ++ Str.ofString "<lambda>" = Str.ofString "law.<locals>.<lambda>" := fun sc => rfl
  rw [hq] at d5
  dsimp only at hfa
  rw [hq] at hfa
  first
    | (refine an5 (cell_at g2 (i := 2) (x := Str.ofString "w") (c := L+1+1+1) rfl l2 rfl rfl) fun v1 ow r1 q1 dw => ?_)
    | (refine ex1 (cell_at g2 (i := 2) (x := Str.ofString "w") (c := L+1+1+1) rfl l2 rfl rfl) fun v1 hh1 => ?_; refine an4 hh1 fun ow r1 q1 dw => ?_; clear hh1)
    | (refine ex2 (cell_at g2 (i := 2) (x := Str.ofString "w") (c := L+1+1+1) rfl l2 rfl rfl) fun v1 ow hh1 => ?_; refine an3 hh1 fun r1 q1 dw => ?_; clear hh1)
    | (refine ex3 (cell_at g2 (i := 2) (x := Str.ofString "w") (c := L+1+1+1) rfl l2 rfl rfl) fun v1 ow r1 hh1 => ?_; refine an2 hh1 fun q1 dw => ?_; clear hh1)
    | obtain ⟨v1, ow, r1, q1, dw⟩ := cell_at g2 (i := 2) (x := Str.ofString "w") (c := L+1+1+1) rfl l2 rfl rfl
  obtain ⟨tkw, rfl⟩ := r1
  first
    | (refine an5 (cell_at g2 (i := 13) (x := Str.ofString "b") (c := L+1+1) rfl l13 rfl rfl) fun v2 ob r2 q2 db => ?_)
    | (refine ex1 (cell_at g2 (i := 13) (x := Str.ofString "b") (c := L+1+1) rfl l13 rfl rfl) fun v2 hh1 => ?_; refine an4 hh1 fun ob r2 q2 db => ?_; clear hh1)
    | (refine ex2 (cell_at g2 (i := 13) (x := Str.ofString "b") (c := L+1+1) rfl l13 rfl rfl) fun v2 ob hh1 => ?_; refine an3 hh1 fun r2 q2 db => ?_; clear hh1)
    | (refine ex3 (cell_at g2 (i := 13) (x := Str.ofString "b") (c := L+1+1) rfl l13 rfl rfl) fun v2 ob r2 hh1 => ?_; refine an2 hh1 fun q2 db => ?_; clear hh1)
    | obtain ⟨v2, ob, r2, q2, db⟩ := cell_at g2 (i := 13) (x := Str.ofString "b") (c := L+1+1) rfl l13 rfl rfl
  cases r2
  first
    | (refine an5 (cell_at g2 (i := 12) (x := Str.ofString "a") (c := L+1) rfl l12 rfl rfl) fun v3 oa r3 q3 da => ?_)
    | (refine ex1 (cell_at g2 (i := 12) (x := Str.ofString "a") (c := L+1) rfl l12 rfl rfl) fun v3 hh1 => ?_; refine an4 hh1 fun oa r3 q3 da => ?_; clear hh1)
    | (refine ex2 (cell_at g2 (i := 12) (x := Str.ofString "a") (c := L+1) rfl l12 rfl rfl) fun v3 oa hh1 => ?_; refine an3 hh1 fun r3 q3 da => ?_; clear hh1)
    | (refine ex3 (cell_at g2 (i := 12) (x := Str.ofString "a") (c := L+1) rfl l12 rfl rfl) fun v3 oa r3 hh1 => ?_; refine an2 hh1 fun q3 da => ?_; clear hh1)
    | obtain ⟨v3, oa, r3, q3, da⟩ := cell_at g2 (i := 12) (x := Str.ofString "a") (c := L+1) rfl l12 rfl rfl
  cases r3
  obtain ⟨m, hm, -⟩ := g2.ns
  have k1 := ok.Cb (Str.ofString "w", L+1+1+1) (mem_of_lookup rfl)
  have k2 := ok.Cb (Str.ofString "b", L+1+1) (mem_of_lookup rfl)
  have k3 := ok.Cb (Str.ofString "a", L+1) (mem_of_lookup rfl)
  have bn : ∀ a x, Hs.rd a = none → H1.rd a = some x → B.get? a = none := fun a x h1 h2 => none_of fun o eo => by
    rcases sst2.hs.rd a (some_ne h2) with z | z
    · exact z h1
    · have := hg.hg.bb _ _ eo
      rw [z] at this; cases this
  have nL : ∀ a x, H1.rd a = some x → a ≠ L := fun a x h1 z => (g2.hg.hr _ _ h1).2 (.inl z)
  have u2 := b1.1 287 _ (by decide) t2
  have u3 := b1.1 294 _ (by decide) t3
  have w2 := b1.2.1 287 o2
  have w3 := b1.2.1 294 o3
  have w1 := b1.2.1 428 o1
  have N : ∀ fo, H1.rd fa = some (.raw fo) → News B L s2.heap [(fa, fo), (c', co), (L+1+1+1, ow), (L+1+1, ob), (L+1, oa), (428, tabObj p1), (294, tabObj p3), (287, tabObj p2)] := by
    intro fo hfo q hq
    simp only [List.mem_cons, List.not_mem_nil, or_false] at hq
    rcases hq with rfl | rfl | rfl | rfl | rfl | rfl | rfl | rfl
    · exact ⟨(g2.hg.hr _ _ hfo).1, nL _ _ hfo, bn _ _ rfa hfo⟩
    · exact ⟨(g2.hg.hr _ _ hc').1, nL _ _ hc', bn _ _ rc' hc'⟩
    · exact ⟨q1, k1.2, k1.1⟩
    · exact ⟨q2, k2.2, k2.1⟩
    · exact ⟨q3, k3.2, k3.1⟩
    · exact ⟨(g2.hg.hr _ _ t1').1, nL _ _ t1', (g2.hg.ow _ w1).2⟩
    · exact ⟨(g2.hg.hr _ _ u3).1, nL _ _ u3, (g2.hg.ow _ w3).2⟩
    · exact ⟨(g2.hg.hr _ _ u2).1, nL _ _ u2, (g2.hg.ow _ w2).2⟩
  have sst3 := sst2.sh
  first
    | (refine an5 s2 fun hp gg dd tt os => ?_; clear s2)
    | (refine ex1 s2 fun hp hh1 => ?_; refine an4 hh1 fun gg dd tt os => ?_; clear hh1 s2)
    | (refine ex2 s2 fun hp gg hh1 => ?_; refine an3 hh1 fun dd tt os => ?_; clear hh1 s2)
    | (refine ex3 s2 fun hp gg dd hh1 => ?_; refine an2 hh1 fun tt os => ?_; clear hh1 s2)
    | obtain ⟨hp, gg, dd, tt, os⟩ := s2
  refine RC fa c' m hp gg dd tt os pm ctv oa ob ow co ra rb wv tkw vs p1 p3 p2 tq _ _ ⟨hm, g2.hg.bb, ok.Lb⟩ dw db da d4 d5 (N _ hfa) fun h' tk' F' N' => ?_
  refine wpAny_truthy_bool ?_
  refine wpAny_execs_nil ?_
  have g3 := gd_again (tk := tk') ok g2 hm F' (fun c hc o ho => by
    have hc' : c ∈ [(Str.ofString "w", L+1+1+1), (Str.ofString "b", L+1+1), (Str.ofString "a", L+1)] := hc
    simp only [List.mem_cons, List.not_mem_nil, or_false] at hc'
    rcases hc' with rfl | rfl | rfl
    · rw [show hp.get? _ = some o from ho] at q1; cases q1; exact (N' _ (.head _)).1
    · rw [show hp.get? _ = some o from ho] at q2; cases q2; exact (N' _ (.tail _ (.head _))).1
    · rw [show hp.get? _ = some o from ho] at q3; cases q3; exact (N' _ (.tail _ (.tail _ (.head _)))).1) (H' := tabsHp p2 p3 p1) (fun a ao h => by
    dsimp only [tabsHp] at h
    split at h
    · rename_i z; subst z; cases h; exact ⟨(N' _ (.tail _ (.tail _ (.tail _ (.tail _ (.tail _ (.head _))))))).1, (g2.hg.hr _ _ u2).2⟩
    · split at h
      · rename_i z; subst z; cases h; exact ⟨(N' _ (.tail _ (.tail _ (.tail _ (.tail _ (.head _)))))).1, (g2.hg.hr _ _ u3).2⟩
      · split at h
        · rename_i z; subst z; cases h; exact ⟨(N' _ (.tail _ (.tail _ (.tail _ (.head _))))).1, (g2.hg.hr _ _ t1').2⟩
        · cases h) (fun a h => h)
  refine wpAny_mono ((?tr : TrB _ _ ?W) ok ⟨loc, tabsHp p2 p3 p1⟩ _ (fun f σ => f = .ret (.bool true) ∧ Sb (tabsHp p2 p3 p1) σ.H) g3 ?vc) (fun f s4 hp4 => ?fin) (fun _ _ x => x.elim)
  case tr =>
    dsimp only [lawFm, lawNm]
    repeat' walk_at "tr"
  case vc =>
    repeat' walk_at "vc"
    refine vc_varE l8 (vc_varE l10 (vc_varE l2 ?_))
    repeat' walk_at "vc"
    refine law_windows_ok (D := 8) hw he hz fun H5 s5 => ?_
    repeat' walk_at "vc"
    exact ⟨rfl, s5.sb⟩
  case fin =>
    obtain ⟨a, σ4, r4, ⟨rfl, hsb⟩, g4, sst4⟩ := hp4
    first
      | (refine ex1 r4 fun u hh1 => ?_; refine an2 hh1 fun hr0 hu => ?_; clear hh1 r4; subst hr0)
      | (refine an3 r4 fun u hr0 hu => ?_; clear r4; subst hr0)
      | obtain ⟨u, rfl, hu⟩ := r4
    cases hu
    first
      | (refine an3 (sst4.sh) fun h4 tk4 e4 => ?_)
      | (refine ex1 (sst4.sh) fun h4 hh1 => ?_; refine an2 hh1 fun tk4 e4 => ?_; clear hh1)
      | obtain ⟨h4, tk4, e4⟩ := sst4.sh
    first
      | (refine an3 sst3 fun h5 tk5 e5 => ?_; clear sst3)
      | (refine ex1 sst3 fun h5 hh1 => ?_; refine an2 hh1 fun tk5 e5 => ?_; clear hh1 sst3)
      | obtain ⟨h5, tk5, e5⟩ := sst3
    have f1 : (tabsHp p2 p3 p1).rd 287 = some (.raw (tabObj p2)) := by dsimp only [tabsHp]; rw [if_pos rfl]
    have f2 : (tabsHp p2 p3 p1).rd 294 = some (.raw (tabObj p3)) := by dsimp only [tabsHp]; rw [if_neg (by decide), if_pos rfl]
    have f3 : (tabsHp p2 p3 p1).rd 428 = some (.raw (tabObj p1)) := by dsimp only [tabsHp]; rw [if_neg (by decide), if_neg (by decide), if_pos rfl]
    refine ⟨⟨_, rfl, rfl⟩, ⟨_, g4.fr ok⟩, ⟨p2, (g4.hg.hr _ _ (hsb _ _ f1)).1⟩, ⟨p3, (g4.hg.hr _ _ (hsb _ _ f2)).1⟩, ⟨p1, (g4.hg.hr _ _ (hsb _ _ f3)).1⟩, h4, tk4, ?_⟩
    rw [e4]
    have := congrArg (fun (z : Shared) => (z.gens, z.drawn, z.os)) e5
    simp only [Prod.mk.injEq] at this
    first
      | (refine an3 this fun z1 z2 z3 => ?_; clear this)
      | (refine ex1 this fun z1 hh1 => ?_; refine an2 hh1 fun z2 z3 => ?_; clear hh1 this)
      | obtain ⟨z1, z2, z3⟩ := this
    rw [z1, z2, z3]
end
section
variable {W : World} {B : Heap} {H : Hp}
open Classical in
noncomputable def startHp (sc : Addr) (ns : List Int) : Hp := ⟨fun a => if a = 287 ∨ a = 294 ∨ a = 428 then some (.raw (tabObj #[])) else if a = sc then some (.list (ns.map .int)) else none, fun a => a = 287 ∨ a = 294 ∨ a = 428⟩
theorem law_run (W : World) (B : Heap) (L lf : Addr) (RC : RefCall W B) {sc : Addr} {ns : List Int} (hns : ns.length ≤ 63) (hsc : sc ≠ 287 ∧ sc ≠ 294 ∧ sc ≠ 428) :
    ∀ u, lawOf PySem.Challenge.rw_nn0037_01.row.prog = some u → (lawFm W B 12 (callerA.deeper (envOfC (Str.ofString "law") u.2 L lf (.ref 432))) u.2 L lf).Ok → ∀ s, Gd (lawFm W B 12 (callerA.deeper (envOfC (Str.ofString "law") u.2 L lf (.ref 432))) u.2 L lf) ⟨[some (.ref sc), none, none, none, none, none, none, none, none, none, none, none, none, none, none, none, none, none, none], startHp sc ns⟩ s →
      wpAny (lawFm W B 12 (callerA.deeper (envOfC (Str.ofString "law") u.2 L lf (.ref 432))) u.2 L lf).M (callerA.deeper (envOfC (Str.ofString "law") u.2 L lf (.ref 432))) (execs u.1 (envOfC (Str.ofString "law") u.2 L lf (.ref 432))) (fun f s' => LawEnd B f s s') (fun _ _ => False) s := by
  have ht : ∀ a, a = 287 ∨ a = 294 ∨ a = 428 → (startHp sc ns).rd a = some (.raw (tabObj #[])) ∧ (startHp sc ns).own a := fun a h => ⟨by dsimp only [startHp]; rw [if_pos h], h⟩
  have hs : (startHp sc ns).rd sc = some (.list (ns.map .int)) := by
    dsimp only [startHp]
    rw [if_neg (fun h => h.elim hsc.1 fun h => h.elim hsc.2.1 hsc.2.2), if_pos rfl]
  obtain ⟨a1, b1⟩ := ht 287 (.inl rfl)
  obtain ⟨a2, b2⟩ := ht 294 (.inr (.inl rfl))
  obtain ⟨a3, b3⟩ := ht 428 (.inr (.inr rfl))
  have P1 := law_pre1 (H := startHp sc ns) W B 0
  have P2 := fun H => law_pre2 (H := H) W B 0
  have P3 := fun H₀ => law_tail W B L lf RC (H₀ := H₀)
  have hspl : ∀ u, lawOf PySem.Challenge.rw_nn0037_01.row.prog = some u → ∃ p q p2 q2 pp, Spl 8 u.1 p q ∧ Spl 7 q p2 q2 ∧ Spl 15 u.1 pp q2 ∧ u.1 = p ++ (p2 ++ q2) := by
    refine' by_lit (h := rfl) ?_
    exact ⟨_, _, _, _, _, by repeat constructor, by repeat constructor, by repeat constructor, rfl⟩
  intro u hu ok s hg
  first
    | (refine an9 (hspl u hu) fun p q p2 q2 pp s1 s2 s3 e => ?_)
    | (refine ex1 (hspl u hu) fun p hh1 => ?_; refine an8 hh1 fun q p2 q2 pp s1 s2 s3 e => ?_; clear hh1)
    | (refine ex2 (hspl u hu) fun p q hh1 => ?_; refine an7 hh1 fun p2 q2 pp s1 s2 s3 e => ?_; clear hh1)
    | (refine ex3 (hspl u hu) fun p q p2 hh1 => ?_; refine an6 hh1 fun q2 pp s1 s2 s3 e => ?_; clear hh1)
    | (refine ex4 (hspl u hu) fun p q p2 q2 hh1 => ?_; refine an5 hh1 fun pp s1 s2 s3 e => ?_; clear hh1)
    | (refine ex5 (hspl u hu) fun p q p2 q2 pp hh1 => ?_; refine an4 hh1 fun s1 s2 s3 e => ?_; clear hh1)
    | (refine ex6 (hspl u hu) fun p q p2 q2 pp s1 hh1 => ?_; refine an3 hh1 fun s2 s3 e => ?_; clear hh1)
    | obtain ⟨p, q, p2, q2, pp, s1, s2, s3, e⟩ := hspl u hu
  rw [e]
  refine execs_app (wpAny_mono (P1 _ L lf hs (by (first | lia | omega)) u hu p q s1 ok s hg) (fun f s' h => ?_) fun _ _ x => x)
  obtain ⟨a, σ', r, ⟨rfl, b, rm, ra, rb, rc, w, x, y, z, m, d, e, f, size, dr, hloc, hsub, em, ea, eb, ec⟩, g', st⟩ := h
  cases r
  obtain ⟨loc, Hs⟩ := σ'
  dsimp only at hloc hsub em ea eb ec
  subst hloc
  refine execs_app (wpAny_mono (P2 Hs _ L lf sc b rm ra rb rc dr em ea eb ec (hsub.get a1) (hsub.2.1 _ b1) (hsub.get a2) (hsub.2.1 _ b2) (hsub.get a3) (hsub.2.1 _ b3) u hu p q s1 p2 q2 s2 ok s' g') (fun f s'' h => ?_) fun _ _ x => x)
  first
    | (refine an6 h fun a σ'' r hJ g'' st' => ?_; clear h)
    | (refine ex1 h fun a hh1 => ?_; refine an5 hh1 fun σ'' r hJ g'' st' => ?_; clear hh1 h)
    | (refine ex2 h fun a σ'' hh1 => ?_; refine an4 hh1 fun r hJ g'' st' => ?_; clear hh1 h)
    | (refine ex3 h fun a σ'' r hh1 => ?_; refine an3 hh1 fun hJ g'' st' => ?_; clear hh1 h)
    | (refine ex4 h fun a σ'' r hJ hh1 => ?_; refine an2 hh1 fun g'' st' => ?_; clear hh1 h)
    | obtain ⟨a, σ'', r, hJ, g'', st'⟩ := h
  have hJ0 := hJ.1
  subst hJ0
  cases r
  refine wpAny_mono (P3 Hs u hu pp q2 s3 ok σ'' s'' g'' hJ) (fun f s3 h => ?_) fun _ _ x => x
  first
    | (refine ex7 h fun z1 z2 z3 z4 z5 h' tk' hr0 => ?_; clear h; subst hr0)
    | (refine an8 h fun z1 z2 z3 z4 z5 h' tk' hr0 => ?_; clear h; subst hr0)
    | (refine ex1 h fun z1 hh1 => ?_; refine an7 hh1 fun z2 z3 z4 z5 h' tk' hr0 => ?_; clear hh1 h; subst hr0)
    | (refine ex2 h fun z1 z2 hh1 => ?_; refine an6 hh1 fun z3 z4 z5 h' tk' hr0 => ?_; clear hh1 h; subst hr0)
    | (refine ex3 h fun z1 z2 z3 hh1 => ?_; refine an5 hh1 fun z4 z5 h' tk' hr0 => ?_; clear hh1 h; subst hr0)
    | (refine ex4 h fun z1 z2 z3 z4 hh1 => ?_; refine an4 hh1 fun z5 h' tk' hr0 => ?_; clear hh1 h; subst hr0)
    | (refine ex5 h fun z1 z2 z3 z4 z5 hh1 => ?_; refine an3 hh1 fun h' tk' hr0 => ?_; clear hh1 h; subst hr0)
    | (refine ex6 h fun z1 z2 z3 z4 z5 h' hh1 => ?_; refine an2 hh1 fun tk' hr0 => ?_; clear hh1 h; subst hr0)
    | obtain ⟨z1, z2, z3, z4, z5, h', tk', rfl⟩ := h
  first
    | (refine ex2 (st'.sh) fun h5 t5 hr0 => ?_; subst hr0)
    | (refine an3 (st'.sh) fun h5 t5 hr0 => ?_; subst hr0)
    | (refine ex1 (st'.sh) fun h5 hh1 => ?_; refine an2 hh1 fun t5 hr0 => ?_; clear hh1; subst hr0)
    | obtain ⟨h5, t5, rfl⟩ := st'.sh
  first
    | (refine ex2 (st.sh) fun h6 t6 hr0 => ?_; subst hr0)
    | (refine an3 (st.sh) fun h6 t6 hr0 => ?_; subst hr0)
    | (refine ex1 (st.sh) fun h6 hh1 => ?_; refine an2 hh1 fun t6 hr0 => ?_; clear hh1; subst hr0)
    | obtain ⟨h6, t6, rfl⟩ := st.sh
  exact ⟨z1, z2, z3, z4, z5, h', tk', rfl⟩
end
section
theorem law_glue {w : World} {Bg : Heap} {mg mb : Str → Option Value} {mean : ExcName → Option Value} {loose : List Str} {L lf : Addr} {m : Str → Option Value} {ow ob oa : Obj} {sc : Addr} {ns : List Int} {vals : List Value} {s : Shared} (X' : (KF w.params).In Bg) (T' : Top topProg loose mean mg mb Bg) (RC : RefCall w Bg) (F' : Fr Bg L s.heap m)
    (N' : News Bg L s.heap [(L+1+1+1, ow), (L+1+1, ob), (L+1, oa), (294, tabObj #[]), (287, tabObj #[]), (428, tabObj #[])]) (hl : 294 < L ∧ 287 < L ∧ 428 < L) (hplain : s.heap.PlainList sc vals.toArray) (hI : IntsAre vals ns) (hns : ns.length ≤ 63) (hscB : Bg.get? sc ≠ none) (hms : m (Str.ofString "script") = some (.ref sc))
    (dw : ∃ x, ow.data = .cell x) (db : ∃ x, ob.data = .cell x) (da : ∃ x, oa.data = .cell x) :
    ∀ u, lawOf PySem.Challenge.rw_nn0037_01.row.prog = some u → wpAny (model PySem.Challenge.rw_nn0037_01.row.prog w) (callerA.deeper (envOfC (Str.ofString "law") u.2 L lf (.ref 432))) (execs u.1 (envOfC (Str.ofString "law") u.2 L lf (.ref 432))) (fun f s' => LawEnd Bg f s s') (fun _ _ => False) s := by
  have R := fun (h : sc ≠ 287 ∧ sc ≠ 294 ∧ sc ≠ 428) => law_run w Bg L lf RC hns h
  revert R
  have key : ∀ u, lawOf PySem.Challenge.rw_nn0037_01.row.prog = some u → (lawFm w Bg 12 (callerA.deeper (envOfC (Str.ofString "law") u.2 L lf (.ref 432))) u.2 L lf).Ok ∧ Gd (lawFm w Bg 12 (callerA.deeper (envOfC (Str.ofString "law") u.2 L lf (.ref 432))) u.2 L lf) ⟨[some (.ref sc), none, none, none, none, none, none, none, none, none, none, none, none, none, none, none, none, none, none], startHp sc ns⟩ s := by
    refine' by_lit (h := rfl) ?_
    dsimp only
    have c3 := N' _ (.head _)
    have c2 := N' _ (.tail _ (.head _))
    have c1 := N' _ (.tail _ (.tail _ (.head _)))
    have t2 := N' _ (.tail _ (.tail _ (.tail _ (.head _))))
    have t1 := N' _ (.tail _ (.tail _ (.tail _ (.tail _ (.head _)))))
    have t3 := N' _ (.tail _ (.tail _ (.tail _ (.tail _ (.tail _ (.head _))))))
    dsimp only at c1 c2 c3 t1 t2 t3
    have hscL : sc < L := by
      obtain ⟨o, e⟩ := Option.ne_none_iff_exists'.mp hscB
      exact Nat.lt_of_lt_of_le (Heap.lt_size e) F'.above
    have low : ∀ x : Scope, cellsFrom (L + 1) x.names [] = [(Str.ofString "w", L+1+1+1), (Str.ofString "b", L+1+1), (Str.ofString "a", L+1)] → ∀ a : Addr, a < L → ¬ Fm.exm (lawFm w Bg 12 (callerA.deeper (envOfC (Str.ofString "law") x L lf (.ref 432))) x L lf) a := fun x hx a ha => by
      rintro (z | ⟨y, hy⟩)
      · exact absurd ha (by rw [show a = L from z]; exact Nat.lt_irrefl _)
      · have hy' : (y, a) ∈ cellsFrom (L + 1) x.names [] := hy
        rw [hx] at hy'
        simp only [List.mem_cons, List.not_mem_nil, or_false, Prod.mk.injEq] at hy'
        rcases hy' with ⟨_, rfl⟩ | ⟨_, rfl⟩ | ⟨_, rfl⟩
        · exact absurd ha (Nat.not_lt.mpr (Nat.le_add_right L 3))
        · exact absurd ha (Nat.not_lt.mpr (Nat.le_add_right L 2))
        · exact absurd ha (Nat.not_lt.mpr (Nat.le_add_right L 1))
    have tb : ∀ a, a = 287 ∨ a = 294 ∨ a = 428 → a < L ∧ s.heap.get? a = some (tabObj #[]) ∧ Bg.get? a = none := by
      rintro a (rfl | rfl | rfl)
      · exact ⟨hl.2.1, t1.1, t1.2.2⟩
      · exact ⟨hl.1, t2.1, t2.2.2⟩
      · exact ⟨hl.2.2, t3.1, t3.2.2⟩
    refine ⟨⟨⟨X', ⟨_, _, _, _, _, T'⟩⟩, rfl, ?_, ?_, rfl, rfl, rfl, F'.above, fun c hc => ?_, ?_, (show lawNm.Nodup by decide)⟩, ⟨⟨fun a ao e => ?_, fun a e => ?_, F'.keep, fun a e => ?_⟩, ⟨m, F'.ns, fun i y av h1 h2 => ?_⟩, fun c hc => ?_⟩⟩
    · show callerA.depth + 1 + 12 < recursionLimit
      decide
    · show callerA.units + 3 + 8 * 12 + 128 < cLine
      decide
    · have hc' : c ∈ [(Str.ofString "w", L+1+1+1), (Str.ofString "b", L+1+1), (Str.ofString "a", L+1)] := hc
      simp only [List.mem_cons, List.not_mem_nil, or_false] at hc'
      rcases hc' with rfl | rfl | rfl
      · exact ⟨c3.2.2, c3.2.1⟩
      · exact ⟨c2.2.2, c2.2.1⟩
      · exact ⟨c1.2.2, c1.2.1⟩
    · show List.Pairwise (fun x y => x.2 ≠ y.2) [(Str.ofString "w", L+1+1+1), (Str.ofString "b", L+1+1), (Str.ofString "a", L+1)]
      have n1 : L+1+1+1 ≠ L+1+1 := Nat.succ_ne_self _
      have n2 : L+1+1+1 ≠ L+1 := Nat.ne_of_gt (Nat.lt_add_of_pos_right (n := L+1) (k := 2) (by decide))
      have n3 : L+1+1 ≠ L+1 := Nat.succ_ne_self _
      refine .cons (fun y hy => ?_) (.cons (fun y hy => ?_) (.cons (fun y hy => by cases hy) .nil))
      · simp only [List.mem_cons, List.not_mem_nil, or_false] at hy
        rcases hy with rfl | rfl
        · exact n1
        · exact n2
      · simp only [List.mem_cons, List.not_mem_nil, or_false] at hy
        rcases hy with rfl
        exact n3
    · dsimp only [startHp] at e
      split at e
      · rename_i z
        cases e
        exact ⟨(tb a z).2.1, low _ rfl a (tb a z).1⟩
      · split at e
        · rename_i z
          subst z
          cases e
          exact ⟨⟨vals, hplain, VRs.ofInts hI⟩, low _ rfl _ hscL⟩
        · cases e
    · exact ⟨low _ rfl a (tb a e).1, (tb a e).2.2⟩
    · exact some_ne (tb a e).2.1
    · match i, h1, h2 with
      | 0, h1, h2 =>
        cases h1; cases h2
        exact ⟨.ref sc, rfl, .inl ⟨rfl, hms⟩⟩
      | i + 1, h1, h2 =>
        exfalso
        have : ∀ (k : Nat) (av : AV), (List.replicate 18 (none : Option AV))[k]? ≠ some (some av) := fun k av h => by
          rw [List.getElem?_replicate] at h
          split at h <;> cases h
        exact this i av h2
    · have hc' : c ∈ [(Str.ofString "w", L+1+1+1), (Str.ofString "b", L+1+1), (Str.ofString "a", L+1)] := hc
      simp only [List.mem_cons, List.not_mem_nil, or_false] at hc'
      rcases hc' with rfl | rfl | rfl
      · exact dw.elim fun x h => ⟨x, ow, c3.1, h⟩
      · exact db.elim fun x h => ⟨x, ob, c2.1, h⟩
      · exact da.elim fun x h => ⟨x, oa, c1.1, h⟩
  intro R u hu
  refine R ⟨fun z => ?_, fun z => ?_, fun z => ?_⟩ u hu (key u hu).1 s (key u hu).2
  · exact hscB (z ▸ (N' _ (.tail _ (.tail _ (.tail _ (.tail _ (.head _)))))).2.2)
  · exact hscB (z ▸ (N' _ (.tail _ (.tail _ (.tail _ (.head _))))).2.2)
  · exact hscB (z ▸ (N' _ (.tail _ (.tail _ (.tail _ (.tail _ (.tail _ (.head _))))))).2.2)
end
end Mine
end
open PySem PySem.W PyProof.Rows
namespace Mine
theorem well_list {P : Params} {h : Heap} {a : Addr} {xs : List PyData} (W : Well P h (.ref a) (ofPy (PyData.list xs))) : ∃ vs : List Value, h.get? a = some { cls := .type "list", data := .seq vs.toArray } := by
  rw [ofPy] at W
  cases W with
  | list h _ => exact ⟨_, h⟩
theorem plain_of {P : Params} {h h₁ : Heap} {a L : Addr} {xs : List PyData} {vals : List Value} {as : List Addr} {m : Str → Option Value} (W : Well P h (.ref a) (ofPy (PyData.list xs))) (x : (hideAll h as).IsList a vals.toArray) (F : Fr (hideAll h as) L h₁ m) : h₁.PlainList a vals.toArray ∧ (hideAll h as).get? a ≠ none := by
  obtain ⟨vs, e⟩ := well_list W
  obtain ⟨o, e1, -, n, e2⟩ := x
  have e3 := of_hideAll _ e1
  rw [e] at e3
  cases e3
  cases e2
  exact ⟨⟨_, F.keep _ _ e1⟩, some_ne e1⟩
end Mine
theorem PySem.Challenge.cw_nn0037_01_holds : PySem.Challenge.rw_nn0037_01.Holds := by
  refine Mine.hd (by rfl) (by rfl) (by rfl) ?_
  k_go0
  rename_i w8 hs hlay0 hL1 hr1 hl2 w7 w6 w5 w4 w3 hL ra wl r0 hI hr hc1 hc0 hD h1 tk1 ow ob oa lw lb la X0 X' T' K' F' cH1 cH0 N' l0
  obtain ⟨hp, hsc⟩ := Mine.plain_of wl lifted F'
  have RC : Mine.RefCall _ _ := Mine.ref_call X' T' K' codeHd
  have G := fun lf gg dd os => Mine.law_glue (lf := lf) (s := ⟨h1, gg, dd, tk1, os⟩) X' T' RC F' N' l0 hp hI (by omega) hsc rfl ⟨_, lw⟩ ⟨_, lb⟩ ⟨_, la⟩ _ rfl
  refine wpAny_mono (G _ _ _ _) (fun f s' h => ?_) (fun _ _ x => x.elim)
  obtain ⟨⟨v, rfl, rfl⟩, ⟨L', m', Fr'⟩, g1, g2, g3, h', tk', rfl⟩ := h
  exact ⟨goodW_bool Fr' (by assumption) (fun _ => rfl) (by wrow_post), g2, g1, g3, trivial⟩
