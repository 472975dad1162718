import PyProof.Rows.All
import Wide.FinOn
import OpenK.AllK
import Wide.All
import Lean
import PySem.Challenge.RW_nn0340_02
set_option Elab.async false
set_option tactic.hygienic false
set_option genInjectivity false
set_option genSizeOf false
set_option compiler.extract_closed false
set_option linter.all false
section
open PySem PySem.W PyProof.Rows
set_option maxRecDepth 100000
namespace Mine
section
variable {tb : String → Option Builtin} {p : Program} {w : World} {n₀ : Nat} {ann : Option Value}
noncomputable def topT (tb : String → Option Builtin) (p : Program) (w : World) (n₀ : Nat) (ann : Option Value) : Nat → SharedT → Thread → Option SharedT
  | 0, _, _ => none
  | n + 1, s, t => match through t with
    | true => some s
    | false => match PySem.W.Fast.tw6613529449190102663 n₀ ann t with
      | false => none
      | true => match PySem.W.Fast.tw10156331382660048174 (PySem.W.Fast.tw11892475500146522536 tb) p w s t with
        | some (s', t') => topT tb p w n₀ ann n s' t'
        | none => none
theorem topT_spec : ∀ {n : Nat} {s s' : SharedT} {t : Thread}, topT tb p w n₀ ann n s t = some s' → topRun tb p w n₀ ann n s.abs t = some s'.abs
  | 0, _, _, _, h => by cases h
  | n + 1, s, s', t, h => by
    unfold topT at h
    unfold topRun
    rw [← PySem.W.Fast.te6613529449190102663, ← PySem.W.Fast.te10156331382660048174, ← PySem.W.Fast.te11892475500146522536] at h
    cases ht : through t with
    | true => rw [ht] at h; cases h; rfl
    | false =>
      rw [ht] at h
      cases hk : stepOk n₀ ann t with
      | false => rw [hk] at h; cases h
      | true =>
        rw [hk] at h
        cases hs : stepT (denote tb) p w s t with
        | none => rw [hs] at h; cases h
        | some r => obtain ⟨s₂, t₂⟩ := r; rw [hs] at h; dsimp only; rw [stepT_spec hs]; exact topT_spec h
end
theorem left_of {p q : Program} {loose : List Str} {Xt : Shared → Bool} {α : Type} {Yf : Shared → α} {Ya : World → α} {N : Nat} {g0 : Bool} {H₀ : Params → Heap} {T₀ : Params → BT} {life : Life} {d₀ : Drawn} {k₀ : Nat} {m₀ : Nat} {ann : Option Value}
    (open_ : ∀ w : World, (fencedOpening treeTable p w N).map (fun s => (s.heap, s.gens, s.drawn, s.toks)) = some (H₀ w.params, #[], d₀, k₀))
    (hb : ∀ P, H₀ P = absHeap (T₀ P) m₀ life)
    (size : ∀ w : World, ((H₀ w.params).isNs mainGlobals, (H₀ w.params).objs.size, (H₀ w.params).nsMap mainGlobals "__annotations__") = (true, m₀, ann))
    (run : ∀ (w : World) (os : OsState), (topT treeTable p w m₀ ann N ⟨T₀ w.params, m₀, life, #[], d₀, k₀, os⟩ (topStub p)).map (fun s =>
        ((staticsOk (importedModules p.main.body) (H₀ w.params) s.abs.heap && namesBound p s.abs.heap && gensDone s.abs && laidKept (H₀ w.params) s.abs.heap), openSeen q loose (importedModules p.main.body) Xt g0 s.abs, Yf s.abs)) =
      some (true, openGood q loose, Ya w)) : LeftO p q loose Xt Yf Ya N g0 := fun w => by
  obtain ⟨⟨h, gs, d, k, os⟩, e, e'⟩ := Option.map_eq_some_iff.mp (open_ w)
  obtain ⟨rfl, rfl, rfl, rfl⟩ : h = H₀ w.params ∧ gs = #[] ∧ d = d₀ ∧ k = k₀ := by simpa using e'
  obtain ⟨z1, z2, z3⟩ : _ ∧ _ ∧ _ := by simpa only [Prod.mk.injEq] using size w
  obtain ⟨s₁, r, l⟩ := Option.map_eq_some_iff.mp (run w os)
  obtain ⟨l1, l2, l3⟩ : _ ∧ _ ∧ _ := by simpa only [Prod.mk.injEq] using l
  have r := topT_spec r
  have t : topFrom treeTable p w N ⟨H₀ w.params, #[], d, k, os⟩ = some s₁.abs := by
    unfold topFrom
    dsimp only
    have r' : topRun treeTable p w m₀ ann N ⟨H₀ w.params, #[], d, k, os⟩ (topStub p) = some s₁.abs := by rw [hb]; exact r
    rw [z1, z2, z3, r']
    show (match staticsOk (importedModules p.main.body) (H₀ w.params) s₁.abs.heap && namesBound p s₁.abs.heap && gensDone s₁.abs && laidKept (H₀ w.params) s₁.abs.heap with | true => _ | false => _) = _
    rw [l1]
  unfold openEnds
  rw [e]
  show (topFrom treeTable p w N _).map _ = _
  rw [t]
  exact congrArg some (Prod.ext l2 l3)
noncomputable def treeOf (l : List Obj) : BT := (l.foldl (fun (x : BT × Nat) o => (x.1.ins x.2 o, x.2 + 1)) (.nil, 0)).1
end Mine
end
section
open PySem PySem.W PyProof.Rows
set_option maxRecDepth 100000
set_option maxHeartbeats 0
namespace Mine
noncomputable abbrev PG : Program := PySem.Challenge.pw_nn0340_02
noncomputable abbrev RW : OpenLaw := PySem.Challenge.rw_nn0340_02
noncomputable def lawIx : Nat := 104
noncomputable def dE (P : Params) (s : Str) (t : Nat) (v : Value) : DictEntry := ⟨PyData.keyHash P s, .str s t, v⟩
noncomputable def stA (i : Nat) : Option Stmt := PG.main.body[i]?
noncomputable def clsBody (e : Stmt) : List Stmt := @Stmt.casesOn (fun _ => List Stmt) e (fun _ _ _ _ _ _ _ _ _ _ => []) (fun _ _ _ _ _ _ _ _ _ _ => []) (fun _ _ _ b _ _ _ _ _ _ _ => b) (fun _ _ => []) (fun _ _ => []) (fun _ _ _ => []) (fun _ _ _ _ _ _ _ => []) (fun _ _ _ _ => []) (fun _ _ _ _ _ => []) (fun _ _ _ _ _ => []) (fun _ _ _ _ _ => []) (fun _ _ _ _ => []) (fun _ _ _ _ => []) (fun _ _ _ => []) (fun _ _ _ => []) (fun _ _ _ => []) (fun _ _ _ => []) (fun _ _ _ _ _ => []) (fun _ _ _ _ _ => []) (fun _ _ _ => []) (fun _ _ => []) (fun _ _ _ _ => []) (fun _ _ => []) (fun _ _ => []) (fun _ _ => []) (fun _ => []) (fun _ => []) (fun _ => [])
noncomputable def stI (i j : Nat) : Option Stmt := PG.main.body[i]?.bind fun s => (clsBody s)[j]?
noncomputable def fnA (e : Stmt) : Arguments × List Stmt × Scope := @Stmt.casesOn (fun _ => Arguments × List Stmt × Scope) e (fun _ a b _ _ _ s _ _ _ => (a, b, s)) (fun _ _ _ _ _ _ _ _ _ _ => (⟨[], [], none, [], [], none, []⟩, [], default)) (fun _ _ _ _ _ _ _ _ _ _ _ => (⟨[], [], none, [], [], none, []⟩, [], default)) (fun _ _ => (⟨[], [], none, [], [], none, []⟩, [], default)) (fun _ _ => (⟨[], [], none, [], [], none, []⟩, [], default)) (fun _ _ _ => (⟨[], [], none, [], [], none, []⟩, [], default)) (fun _ _ _ _ _ _ _ => (⟨[], [], none, [], [], none, []⟩, [], default)) (fun _ _ _ _ => (⟨[], [], none, [], [], none, []⟩, [], default)) (fun _ _ _ _ _ => (⟨[], [], none, [], [], none, []⟩, [], default)) (fun _ _ _ _ _ => (⟨[], [], none, [], [], none, []⟩, [], default)) (fun _ _ _ _ _ => (⟨[], [], none, [], [], none, []⟩, [], default)) (fun _ _ _ _ => (⟨[], [], none, [], [], none, []⟩, [], default)) (fun _ _ _ _ => (⟨[], [], none, [], [], none, []⟩, [], default)) (fun _ _ _ => (⟨[], [], none, [], [], none, []⟩, [], default)) (fun _ _ _ => (⟨[], [], none, [], [], none, []⟩, [], default)) (fun _ _ _ => (⟨[], [], none, [], [], none, []⟩, [], default)) (fun _ _ _ => (⟨[], [], none, [], [], none, []⟩, [], default)) (fun _ _ _ _ _ => (⟨[], [], none, [], [], none, []⟩, [], default)) (fun _ _ _ _ _ => (⟨[], [], none, [], [], none, []⟩, [], default)) (fun _ _ _ => (⟨[], [], none, [], [], none, []⟩, [], default)) (fun _ _ => (⟨[], [], none, [], [], none, []⟩, [], default)) (fun _ _ _ _ => (⟨[], [], none, [], [], none, []⟩, [], default)) (fun _ _ => (⟨[], [], none, [], [], none, []⟩, [], default)) (fun _ _ => (⟨[], [], none, [], [], none, []⟩, [], default)) (fun _ _ => (⟨[], [], none, [], [], none, []⟩, [], default)) (fun _ => (⟨[], [], none, [], [], none, []⟩, [], default)) (fun _ => (⟨[], [], none, [], [], none, []⟩, [], default)) (fun _ => (⟨[], [], none, [], [], none, []⟩, [], default))
noncomputable def fnO (s : Option Stmt) (name qual : Str) (g : Addr) (dv kv doc pm : Value) (an : Option Addr) (cd ct : Value) (bi : Addr) : FuncData := match s with
  | some s => ⟨name, qual, (fnA s).1, .stmts (fnA s).2.1, (fnA s).2.2, g, [], dv, kv, doc, pm, an, cd, ct, bi⟩
  | none => ⟨name, qual, ⟨[], [], none, [], [], none, []⟩, .stmts [], default, g, [], dv, kv, doc, pm, an, cd, ct, bi⟩
noncomputable def ko2 (P : Params) : Obj := ⟨.none, none, (.dict #[(dE P "type.__subclasses__.Exception.0" 228 (.int 39 0)), (dE P "type.__subclasses__.Exception.n" 229 (.int 1 0))] 2), #[]⟩
noncomputable def ko3 (P : Params) : Obj := ⟨(.type "dict"), none, (.dict #[(dE P "__name__" 165 (.str "law_nn0340_02" 1457)), (dE P "__doc__" 166 .none), (dE P "__package__" 167 .none), (dE P "__loader__" 168 (.builtin "__main__.__loader__#opaque")), (dE P "__spec__" 169 .none), (dE P "__annotations__" 170 (.ref 6)), (dE P "__builtins__" 171 (.ref 4)), (dE P "__file__" 173 (.str "/claim/cut.py" 172)), (dE P "__cached__" 174 .none), (dE P "_wall" 193 (.ref 21)), (dE P "GateloomError" 231 (.ref 39)), (dE P "DesignError" 247 (.ref 52)), (dE P "LimitReached" 263 (.ref 64)), (dE P "mask" 272 (.ref 73)), (dE P "vec" 283 (.ref 81)), (dE P "zeros" 290 (.ref 88)), (dE P "all_x" 298 (.ref 95)), (dE P "all_z" 305 (.ref 102)), (dE P "from_int" 313 (.ref 109)), (dE P "is_known" 320 (.ref 116)), (dE P "to_int" 331 (.ref 123)), (dE P "code" 339 (.ref 130)), (dE P "slice_vec" 355 (.ref 137)), (dE P "put_slice" 371 (.ref 144)), (dE P "concat" 382 (.ref 151)), (dE P "extend" 395 (.ref 158)), (dE P "z_to_x" 402 (.ref 165)), (dE P "truth" 409 (.ref 172)), (dE P "add" 419 (.ref 179)), (dE P "sub" 427 (.ref 186)), (dE P "mul" 435 (.ref 193)), (dE P "neg" 442 (.ref 200)), (dE P "quotient" 451 (.ref 207)), (dE P "div" 462 (.ref 214)), (dE P "mod" 473 (.ref 221)), (dE P "raise_whole" 486 (.ref 228)), (dE P "power" 499 (.ref 235)), (dE P "shift_left" 509 (.ref 242)), (dE P "shift_right" 518 (.ref 249)), (dE P "shift_arith" 533 (.ref 256)), (dE P "ordered" 544 (.ref 263)), (dE P "less" 554 (.ref 270)), (dE P "less_equal" 564 (.ref 277)), (dE P "greater" 573 (.ref 284)), (dE P "greater_equal" 582 (.ref 291)), (dE P "one_bit" 591 (.ref 298)), (dE P "bit_not" 601 (.ref 305)), (dE P "bit_and" 615 (.ref 312)), (dE P "bit_or" 630 (.ref 319)), (dE P "bit_xor" 639 (.ref 326)), (dE P "bit_xnor" 647 (.ref 333)), (dE P "reduce_and" 657 (.ref 340)), (dE P "reduce_nand" 664 (.ref 347)), (dE P "reduce_or" 671 (.ref 354)), (dE P "reduce_nor" 678 (.ref 361)), (dE P "reduce_xor" 687 (.ref 368)), (dE P "reduce_xnor" 694 (.ref 375)), (dE P "logic_not" 701 (.ref 382)), (dE P "logic_and" 709 (.ref 389)), (dE P "logic_or" 717 (.ref 396)), (dE P "equal" 726 (.ref 403)), (dE P "not_equal" 734 (.ref 410)), (dE P "case_equal" 742 (.ref 417)), (dE P "case_not_equal" 750 (.ref 424)), (dE P "matches" 761 (.ref 431)), (dE P "choose" 774 (.ref 438)), (dE P "unary" 784 (.ref 445)), (dE P "arithmetic" 794 (.ref 452)), (dE P "comparison" 804 (.ref 459)), (dE P "bitwise" 813 (.ref 466)), (dE P "binary" 824 (.ref 473)), (dE P "whole_of" 833 (.ref 480)), (dE P "memory_word" 843 (.ref 487)), (dE P "picked" 853 (.ref 494)), (dE P "conditional" 863 (.ref 501)), (dE P "bits_needed" 871 (.ref 508)), (dE P "system_value" 882 (.ref 515)), (dE P "evaluate" 888 (.ref 520)), (dE P "locate" 897 (.ref 527)), (dE P "holder_width" 905 (.ref 534)), (dE P "resolve_target" 924 (.ref 541)), (dE P "store_rows" 941 (.ref 548)), (dE P "Store" 1009 (.ref 586)), (dE P "Context" 1068 (.ref 629)), (dE P "DEPTH_LIMIT" 1072 (.int 24 1071)), (dE P "FunctionContext" 1139 (.ref 677)), (dE P "run_block" 1149 (.ref 686)), (dE P "run_set" 1159 (.ref 693)), (dE P "run_case" 1172 (.ref 700)), (dE P "run_while" 1183 (.ref 707)), (dE P "run_repeat" 1193 (.ref 714)), (dE P "run_for" 1201 (.ref 721)), (dE P "run_statement" 1210 (.ref 728)), (dE P "net_kinds" 1218 (.ref 735)), (dE P "Signal" 1303 (.ref 787)), (dE P "Routine" 1355 (.ref 813)), (dE P "Design" 1456 (.ref 876)), (dE P "_law_row" 1469 (.ref 887)), (dE P "_law_next" 1476 (.ref 894)), (dE P "_law_bits" 1488 (.ref 901)), (dE P "_law_made" 1498 (.ref 908)), (dE P "_law_lv" 1507 (.ref 915)), (dE P "_law_function" 1518 (.ref 922)), (dE P "_law_refused" 1528 (.ref 929)), (dE P "law" 1534 (.ref 934))] 105), #[]⟩
noncomputable def ko21 : Obj := ⟨(.type "function"), none, (.func (fnO (stA 0) "_wall" "_wall" 3 .none .none .none (.str "__main__" 164) none (.ref 20) .none 0)), #[]⟩
noncomputable def ko29 : Obj := ⟨(.type "tuple"), none, (.seq #[(.int (-1) 209), (.str "" 210)] 0), #[]⟩
noncomputable def ko35 : Obj := ⟨(.type "code"), none, (.fields #[(.str "__init__" 211), (.str "GateloomError.__init__" 212), (.str "/claim/cut.py" 213), (.int 7 0), (.int 4 0), (.int 0 0), (.int 0 0), (.int 3 0), (.ref 30), (.bool true), (.int 181 0), (.ref 31), .none, (.ref 32), (.ref 33), (.ref 34), (.int 218 0), (.int 7 0), (.str "/claim/cut.py" 219)]), #[]⟩
noncomputable def ko36 : Obj := ⟨(.type "function"), none, (.func (fnO (stI 2 0) "__init__" "GateloomError.__init__" 3 (.ref 29) .none .none (.str "gateloom.errors" 194) none (.ref 35) .none 0)), #[]⟩
noncomputable def ko38 (P : Params) : Obj := ⟨(.type "dict"), none, (.dict #[(dE P "__module__" 203 (.str "gateloom.errors" 194)), (dE P "__firstlineno__" 207 (.int 5 206)), (dE P "__init__" 220 (.ref 36)), (dE P "__static_attributes__" 224 (.ref 37)), (dE P "__weakref__" 226 (.ref 40)), (dE P "__doc__" 227 .none)] 3), #[]⟩
noncomputable def ko39 : Obj := ⟨(.type "type"), none, (.cls ⟨"GateloomError", [(.type "Exception")], [(.ref 39), (.type "Exception"), (.type "BaseException"), (.type "object")], 38, "GateloomError", true, [], [(.ref 52), (.ref 64)], false, none, false⟩), #[(some (.ref 22)), none, (some (.str "GateloomError" 196)), (some (.str "GateloomError" 204)), (some (.builtin "Exception.__new__")), (some (.bool true))]⟩
noncomputable def ko51 (P : Params) : Obj := ⟨(.type "dict"), none, (.dict #[(dE P "__module__" 239 (.str "gateloom.errors" 194)), (dE P "__firstlineno__" 243 (.int 11 242)), (dE P "__static_attributes__" 244 (.ref 50)), (dE P "__doc__" 245 .none)] 2), #[]⟩
noncomputable def ko52 : Obj := ⟨(.type "type"), none, (.cls ⟨"DesignError", [(.ref 39)], [(.ref 52), (.ref 39), (.type "Exception"), (.type "BaseException"), (.type "object")], 51, "DesignError", true, [], [], false, none, false⟩), #[(some (.ref 43)), none, (some (.str "DesignError" 232)), (some (.str "DesignError" 240)), (some (.builtin "Exception.__new__")), (some (.bool true))]⟩
noncomputable def ko63 (P : Params) : Obj := ⟨(.type "dict"), none, (.dict #[(dE P "__module__" 255 (.str "gateloom.errors" 194)), (dE P "__firstlineno__" 259 (.int 13 258)), (dE P "__static_attributes__" 260 (.ref 62)), (dE P "__doc__" 261 .none)] 2), #[]⟩
noncomputable def ko64 : Obj := ⟨(.type "type"), none, (.cls ⟨"LimitReached", [(.ref 39)], [(.ref 64), (.ref 39), (.type "Exception"), (.type "BaseException"), (.type "object")], 63, "LimitReached", true, [], [], false, none, false⟩), #[(some (.ref 55)), none, (some (.str "LimitReached" 248)), (some (.str "LimitReached" 256)), (some (.builtin "Exception.__new__")), (some (.bool true))]⟩
noncomputable def ko72 : Obj := ⟨(.type "code"), none, (.fields #[(.str "mask" 266), (.str "mask" 267), (.str "/claim/cut.py" 268), (.int 16 0), (.int 1 0), (.int 0 0), (.int 0 0), (.int 3 0), (.ref 67), (.bool true), (.int 181 0), (.ref 68), .none, (.ref 69), (.ref 70), (.ref 71), (.int 270 0), (.int 16 0), (.str "/claim/cut.py" 271)]), #[]⟩
noncomputable def ko73 : Obj := ⟨(.type "function"), none, (.func (fnO (stA 6) "mask" "mask" 3 .none .none .none (.str "gateloom.vec" 264) none (.ref 72) .none 0)), #[]⟩
noncomputable def ko74 : Obj := ⟨(.type "tuple"), none, (.seq #[(.int 0 273)] 0), #[]⟩
noncomputable def ko80 : Obj := ⟨(.type "code"), none, (.fields #[(.str "vec" 274), (.str "vec" 275), (.str "/claim/cut.py" 276), (.int 18 0), (.int 3 0), (.int 0 0), (.int 0 0), (.int 3 0), (.ref 75), (.bool true), (.int 181 0), (.ref 76), .none, (.ref 77), (.ref 78), (.ref 79), (.int 281 0), (.int 18 0), (.str "/claim/cut.py" 282)]), #[]⟩
noncomputable def ko81 : Obj := ⟨(.type "function"), none, (.func (fnO (stA 7) "vec" "vec" 3 (.ref 74) .none .none (.str "gateloom.vec" 264) none (.ref 80) .none 0)), #[]⟩
noncomputable def ko88 : Obj := ⟨(.type "function"), none, (.func (fnO (stA 8) "zeros" "zeros" 3 .none .none .none (.str "gateloom.vec" 264) none (.ref 87) .none 0)), #[]⟩
noncomputable def ko94 : Obj := ⟨(.type "code"), none, (.fields #[(.str "all_x" 291), (.str "all_x" 292), (.str "/claim/cut.py" 293), (.int 23 0), (.int 1 0), (.int 0 0), (.int 0 0), (.int 3 0), (.ref 89), (.bool true), (.int 181 0), (.ref 90), .none, (.ref 91), (.ref 92), (.ref 93), (.int 296 0), (.int 23 0), (.str "/claim/cut.py" 297)]), #[]⟩
noncomputable def ko95 : Obj := ⟨(.type "function"), none, (.func (fnO (stA 9) "all_x" "all_x" 3 .none .none .none (.str "gateloom.vec" 264) none (.ref 94) .none 0)), #[]⟩
noncomputable def ko102 : Obj := ⟨(.type "function"), none, (.func (fnO (stA 10) "all_z" "all_z" 3 .none .none .none (.str "gateloom.vec" 264) none (.ref 101) .none 0)), #[]⟩
noncomputable def ko108 : Obj := ⟨(.type "code"), none, (.fields #[(.str "from_int" 306), (.str "from_int" 307), (.str "/claim/cut.py" 308), (.int 28 0), (.int 2 0), (.int 0 0), (.int 0 0), (.int 3 0), (.ref 103), (.bool true), (.int 181 0), (.ref 104), .none, (.ref 105), (.ref 106), (.ref 107), (.int 311 0), (.int 28 0), (.str "/claim/cut.py" 312)]), #[]⟩
noncomputable def ko109 : Obj := ⟨(.type "function"), none, (.func (fnO (stA 11) "from_int" "from_int" 3 .none .none .none (.str "gateloom.vec" 264) none (.ref 108) .none 0)), #[]⟩
noncomputable def ko115 : Obj := ⟨(.type "code"), none, (.fields #[(.str "is_known" 314), (.str "is_known" 315), (.str "/claim/cut.py" 316), (.int 30 0), (.int 1 0), (.int 0 0), (.int 0 0), (.int 3 0), (.ref 110), (.bool true), (.int 181 0), (.ref 111), .none, (.ref 112), (.ref 113), (.ref 114), (.int 318 0), (.int 30 0), (.str "/claim/cut.py" 319)]), #[]⟩
noncomputable def ko116 : Obj := ⟨(.type "function"), none, (.func (fnO (stA 12) "is_known" "is_known" 3 .none .none .none (.str "gateloom.vec" 264) none (.ref 115) .none 0)), #[]⟩
noncomputable def ko123 : Obj := ⟨(.type "function"), none, (.func (fnO (stA 13) "to_int" "to_int" 3 .none .none .none (.str "gateloom.vec" 264) none (.ref 122) .none 0)), #[]⟩
noncomputable def ko129 : Obj := ⟨(.type "code"), none, (.fields #[(.str "code" 332), (.str "code" 333), (.str "/claim/cut.py" 334), (.int 39 0), (.int 2 0), (.int 0 0), (.int 0 0), (.int 3 0), (.ref 124), (.bool true), (.int 181 0), (.ref 125), .none, (.ref 126), (.ref 127), (.ref 128), (.int 337 0), (.int 39 0), (.str "/claim/cut.py" 338)]), #[]⟩
noncomputable def ko130 : Obj := ⟨(.type "function"), none, (.func (fnO (stA 14) "code" "code" 3 .none .none .none (.str "gateloom.vec" 264) none (.ref 129) .none 0)), #[]⟩
noncomputable def ko136 : Obj := ⟨(.type "code"), none, (.fields #[(.str "slice_vec" 340), (.str "slice_vec" 341), (.str "/claim/cut.py" 342), (.int 41 0), (.int 3 0), (.int 0 0), (.int 0 0), (.int 3 0), (.ref 131), (.bool true), (.int 181 0), (.ref 132), .none, (.ref 133), (.ref 134), (.ref 135), (.int 353 0), (.int 41 0), (.str "/claim/cut.py" 354)]), #[]⟩
noncomputable def ko137 : Obj := ⟨(.type "function"), none, (.func (fnO (stA 15) "slice_vec" "slice_vec" 3 .none .none .none (.str "gateloom.vec" 264) none (.ref 136) .none 0)), #[]⟩
noncomputable def ko143 : Obj := ⟨(.type "code"), none, (.fields #[(.str "put_slice" 356), (.str "put_slice" 357), (.str "/claim/cut.py" 358), (.int 52 0), (.int 3 0), (.int 0 0), (.int 0 0), (.int 3 0), (.ref 138), (.bool true), (.int 181 0), (.ref 139), .none, (.ref 140), (.ref 141), (.ref 142), (.int 369 0), (.int 52 0), (.str "/claim/cut.py" 370)]), #[]⟩
noncomputable def ko144 : Obj := ⟨(.type "function"), none, (.func (fnO (stA 16) "put_slice" "put_slice" 3 .none .none .none (.str "gateloom.vec" 264) none (.ref 143) .none 0)), #[]⟩
noncomputable def ko151 : Obj := ⟨(.type "function"), none, (.func (fnO (stA 17) "concat" "concat" 3 .none .none .none (.str "gateloom.vec" 264) none (.ref 150) .none 0)), #[]⟩
noncomputable def ko157 : Obj := ⟨(.type "code"), none, (.fields #[(.str "extend" 383), (.str "extend" 384), (.str "/claim/cut.py" 385), (.int 72 0), (.int 3 0), (.int 0 0), (.int 0 0), (.int 3 0), (.ref 152), (.bool true), (.int 181 0), (.ref 153), .none, (.ref 154), (.ref 155), (.ref 156), (.int 393 0), (.int 72 0), (.str "/claim/cut.py" 394)]), #[]⟩
noncomputable def ko158 : Obj := ⟨(.type "function"), none, (.func (fnO (stA 18) "extend" "extend" 3 .none .none .none (.str "gateloom.vec" 264) none (.ref 157) .none 0)), #[]⟩
noncomputable def ko165 : Obj := ⟨(.type "function"), none, (.func (fnO (stA 19) "z_to_x" "z_to_x" 3 .none .none .none (.str "gateloom.vec" 264) none (.ref 164) .none 0)), #[]⟩
noncomputable def ko171 : Obj := ⟨(.type "code"), none, (.fields #[(.str "truth" 403), (.str "truth" 404), (.str "/claim/cut.py" 405), (.int 84 0), (.int 1 0), (.int 0 0), (.int 0 0), (.int 3 0), (.ref 166), (.bool true), (.int 181 0), (.ref 167), .none, (.ref 168), (.ref 169), (.ref 170), (.int 407 0), (.int 84 0), (.str "/claim/cut.py" 408)]), #[]⟩
noncomputable def ko172 : Obj := ⟨(.type "function"), none, (.func (fnO (stA 20) "truth" "truth" 3 .none .none .none (.str "gateloom.vec" 264) none (.ref 171) .none 0)), #[]⟩
noncomputable def ko178 : Obj := ⟨(.type "code"), none, (.fields #[(.str "add" 412), (.str "add" 413), (.str "/claim/cut.py" 414), (.int 91 0), (.int 2 0), (.int 0 0), (.int 0 0), (.int 3 0), (.ref 173), (.bool true), (.int 181 0), (.ref 174), .none, (.ref 175), (.ref 176), (.ref 177), (.int 417 0), (.int 91 0), (.str "/claim/cut.py" 418)]), #[]⟩
noncomputable def ko179 : Obj := ⟨(.type "function"), none, (.func (fnO (stA 22) "add" "add" 3 .none .none .none (.str "gateloom.vecarith" 410) none (.ref 178) .none 0)), #[]⟩
noncomputable def ko186 : Obj := ⟨(.type "function"), none, (.func (fnO (stA 23) "sub" "sub" 3 .none .none .none (.str "gateloom.vecarith" 410) none (.ref 185) .none 0)), #[]⟩
noncomputable def ko193 : Obj := ⟨(.type "function"), none, (.func (fnO (stA 24) "mul" "mul" 3 .none .none .none (.str "gateloom.vecarith" 410) none (.ref 192) .none 0)), #[]⟩
noncomputable def ko200 : Obj := ⟨(.type "function"), none, (.func (fnO (stA 25) "neg" "neg" 3 .none .none .none (.str "gateloom.vecarith" 410) none (.ref 199) .none 0)), #[]⟩
noncomputable def ko207 : Obj := ⟨(.type "function"), none, (.func (fnO (stA 26) "quotient" "quotient" 3 .none .none .none (.str "gateloom.vecarith" 410) none (.ref 206) .none 0)), #[]⟩
noncomputable def ko214 : Obj := ⟨(.type "function"), none, (.func (fnO (stA 27) "div" "div" 3 .none .none .none (.str "gateloom.vecarith" 410) none (.ref 213) .none 0)), #[]⟩
noncomputable def ko221 : Obj := ⟨(.type "function"), none, (.func (fnO (stA 28) "mod" "mod" 3 .none .none .none (.str "gateloom.vecarith" 410) none (.ref 220) .none 0)), #[]⟩
noncomputable def ko228 : Obj := ⟨(.type "function"), none, (.func (fnO (stA 29) "raise_whole" "raise_whole" 3 .none .none .none (.str "gateloom.vecarith" 410) none (.ref 227) .none 0)), #[]⟩
noncomputable def ko235 : Obj := ⟨(.type "function"), none, (.func (fnO (stA 30) "power" "power" 3 .none .none .none (.str "gateloom.vecarith" 410) none (.ref 234) .none 0)), #[]⟩
noncomputable def ko242 : Obj := ⟨(.type "function"), none, (.func (fnO (stA 31) "shift_left" "shift_left" 3 .none .none .none (.str "gateloom.vecarith" 410) none (.ref 241) .none 0)), #[]⟩
noncomputable def ko249 : Obj := ⟨(.type "function"), none, (.func (fnO (stA 32) "shift_right" "shift_right" 3 .none .none .none (.str "gateloom.vecarith" 410) none (.ref 248) .none 0)), #[]⟩
noncomputable def ko256 : Obj := ⟨(.type "function"), none, (.func (fnO (stA 33) "shift_arith" "shift_arith" 3 .none .none .none (.str "gateloom.vecarith" 410) none (.ref 255) .none 0)), #[]⟩
noncomputable def ko263 : Obj := ⟨(.type "function"), none, (.func (fnO (stA 34) "ordered" "ordered" 3 .none .none .none (.str "gateloom.vecarith" 410) none (.ref 262) .none 0)), #[]⟩
noncomputable def ko270 : Obj := ⟨(.type "function"), none, (.func (fnO (stA 35) "less" "less" 3 .none .none .none (.str "gateloom.vecarith" 410) none (.ref 269) .none 0)), #[]⟩
noncomputable def ko277 : Obj := ⟨(.type "function"), none, (.func (fnO (stA 36) "less_equal" "less_equal" 3 .none .none .none (.str "gateloom.vecarith" 410) none (.ref 276) .none 0)), #[]⟩
noncomputable def ko284 : Obj := ⟨(.type "function"), none, (.func (fnO (stA 37) "greater" "greater" 3 .none .none .none (.str "gateloom.vecarith" 410) none (.ref 283) .none 0)), #[]⟩
noncomputable def ko291 : Obj := ⟨(.type "function"), none, (.func (fnO (stA 38) "greater_equal" "greater_equal" 3 .none .none .none (.str "gateloom.vecarith" 410) none (.ref 290) .none 0)), #[]⟩
noncomputable def ko297 : Obj := ⟨(.type "code"), none, (.fields #[(.str "one_bit" 585), (.str "one_bit" 586), (.str "/claim/cut.py" 587), (.int 198 0), (.int 1 0), (.int 0 0), (.int 0 0), (.int 3 0), (.ref 292), (.bool true), (.int 181 0), (.ref 293), .none, (.ref 294), (.ref 295), (.ref 296), (.int 589 0), (.int 198 0), (.str "/claim/cut.py" 590)]), #[]⟩
noncomputable def ko298 : Obj := ⟨(.type "function"), none, (.func (fnO (stA 40) "one_bit" "one_bit" 3 .none .none .none (.str "gateloom.vecops" 583) none (.ref 297) .none 0)), #[]⟩
noncomputable def ko305 : Obj := ⟨(.type "function"), none, (.func (fnO (stA 41) "bit_not" "bit_not" 3 .none .none .none (.str "gateloom.vecops" 583) none (.ref 304) .none 0)), #[]⟩
noncomputable def ko312 : Obj := ⟨(.type "function"), none, (.func (fnO (stA 42) "bit_and" "bit_and" 3 .none .none .none (.str "gateloom.vecops" 583) none (.ref 311) .none 0)), #[]⟩
noncomputable def ko319 : Obj := ⟨(.type "function"), none, (.func (fnO (stA 43) "bit_or" "bit_or" 3 .none .none .none (.str "gateloom.vecops" 583) none (.ref 318) .none 0)), #[]⟩
noncomputable def ko325 : Obj := ⟨(.type "code"), none, (.fields #[(.str "bit_xor" 631), (.str "bit_xor" 632), (.str "/claim/cut.py" 633), (.int 214 0), (.int 2 0), (.int 0 0), (.int 0 0), (.int 3 0), (.ref 320), (.bool true), (.int 181 0), (.ref 321), .none, (.ref 322), (.ref 323), (.ref 324), (.int 637 0), (.int 214 0), (.str "/claim/cut.py" 638)]), #[]⟩
noncomputable def ko326 : Obj := ⟨(.type "function"), none, (.func (fnO (stA 44) "bit_xor" "bit_xor" 3 .none .none .none (.str "gateloom.vecops" 583) none (.ref 325) .none 0)), #[]⟩
noncomputable def ko333 : Obj := ⟨(.type "function"), none, (.func (fnO (stA 45) "bit_xnor" "bit_xnor" 3 .none .none .none (.str "gateloom.vecops" 583) none (.ref 332) .none 0)), #[]⟩
noncomputable def ko340 : Obj := ⟨(.type "function"), none, (.func (fnO (stA 46) "reduce_and" "reduce_and" 3 .none .none .none (.str "gateloom.vecops" 583) none (.ref 339) .none 0)), #[]⟩
noncomputable def ko347 : Obj := ⟨(.type "function"), none, (.func (fnO (stA 47) "reduce_nand" "reduce_nand" 3 .none .none .none (.str "gateloom.vecops" 583) none (.ref 346) .none 0)), #[]⟩
noncomputable def ko354 : Obj := ⟨(.type "function"), none, (.func (fnO (stA 48) "reduce_or" "reduce_or" 3 .none .none .none (.str "gateloom.vecops" 583) none (.ref 353) .none 0)), #[]⟩
noncomputable def ko361 : Obj := ⟨(.type "function"), none, (.func (fnO (stA 49) "reduce_nor" "reduce_nor" 3 .none .none .none (.str "gateloom.vecops" 583) none (.ref 360) .none 0)), #[]⟩
noncomputable def ko368 : Obj := ⟨(.type "function"), none, (.func (fnO (stA 50) "reduce_xor" "reduce_xor" 3 .none .none .none (.str "gateloom.vecops" 583) none (.ref 367) .none 0)), #[]⟩
noncomputable def ko375 : Obj := ⟨(.type "function"), none, (.func (fnO (stA 51) "reduce_xnor" "reduce_xnor" 3 .none .none .none (.str "gateloom.vecops" 583) none (.ref 374) .none 0)), #[]⟩
noncomputable def ko382 : Obj := ⟨(.type "function"), none, (.func (fnO (stA 52) "logic_not" "logic_not" 3 .none .none .none (.str "gateloom.vecops" 583) none (.ref 381) .none 0)), #[]⟩
noncomputable def ko389 : Obj := ⟨(.type "function"), none, (.func (fnO (stA 53) "logic_and" "logic_and" 3 .none .none .none (.str "gateloom.vecops" 583) none (.ref 388) .none 0)), #[]⟩
noncomputable def ko396 : Obj := ⟨(.type "function"), none, (.func (fnO (stA 54) "logic_or" "logic_or" 3 .none .none .none (.str "gateloom.vecops" 583) none (.ref 395) .none 0)), #[]⟩
noncomputable def ko402 : Obj := ⟨(.type "code"), none, (.fields #[(.str "equal" 718), (.str "equal" 719), (.str "/claim/cut.py" 720), (.int 247 0), (.int 2 0), (.int 0 0), (.int 0 0), (.int 3 0), (.ref 397), (.bool true), (.int 181 0), (.ref 398), .none, (.ref 399), (.ref 400), (.ref 401), (.int 724 0), (.int 247 0), (.str "/claim/cut.py" 725)]), #[]⟩
noncomputable def ko403 : Obj := ⟨(.type "function"), none, (.func (fnO (stA 55) "equal" "equal" 3 .none .none .none (.str "gateloom.vecops" 583) none (.ref 402) .none 0)), #[]⟩
noncomputable def ko410 : Obj := ⟨(.type "function"), none, (.func (fnO (stA 56) "not_equal" "not_equal" 3 .none .none .none (.str "gateloom.vecops" 583) none (.ref 409) .none 0)), #[]⟩
noncomputable def ko417 : Obj := ⟨(.type "function"), none, (.func (fnO (stA 57) "case_equal" "case_equal" 3 .none .none .none (.str "gateloom.vecops" 583) none (.ref 416) .none 0)), #[]⟩
noncomputable def ko424 : Obj := ⟨(.type "function"), none, (.func (fnO (stA 58) "case_not_equal" "case_not_equal" 3 .none .none .none (.str "gateloom.vecops" 583) none (.ref 423) .none 0)), #[]⟩
noncomputable def ko431 : Obj := ⟨(.type "function"), none, (.func (fnO (stA 59) "matches" "matches" 3 .none .none .none (.str "gateloom.vecops" 583) none (.ref 430) .none 0)), #[]⟩
noncomputable def ko438 : Obj := ⟨(.type "function"), none, (.func (fnO (stA 60) "choose" "choose" 3 .none .none .none (.str "gateloom.vecops" 583) none (.ref 437) .none 0)), #[]⟩
noncomputable def ko445 : Obj := ⟨(.type "function"), none, (.func (fnO (stA 62) "unary" "unary" 3 .none .none .none (.str "gateloom.evaluate" 775) none (.ref 444) .none 0)), #[]⟩
noncomputable def ko451 : Obj := ⟨(.type "code"), none, (.fields #[(.str "arithmetic" 785), (.str "arithmetic" 786), (.str "/claim/cut.py" 787), (.int 297 0), (.int 4 0), (.int 0 0), (.int 0 0), (.int 3 0), (.ref 446), (.bool true), (.int 181 0), (.ref 447), .none, (.ref 448), (.ref 449), (.ref 450), (.int 792 0), (.int 297 0), (.str "/claim/cut.py" 793)]), #[]⟩
noncomputable def ko452 : Obj := ⟨(.type "function"), none, (.func (fnO (stA 63) "arithmetic" "arithmetic" 3 .none .none .none (.str "gateloom.evaluate" 775) none (.ref 451) .none 0)), #[]⟩
noncomputable def ko458 : Obj := ⟨(.type "code"), none, (.fields #[(.str "comparison" 795), (.str "comparison" 796), (.str "/claim/cut.py" 797), (.int 315 0), (.int 4 0), (.int 0 0), (.int 0 0), (.int 3 0), (.ref 453), (.bool true), (.int 181 0), (.ref 454), .none, (.ref 455), (.ref 456), (.ref 457), (.int 802 0), (.int 315 0), (.str "/claim/cut.py" 803)]), #[]⟩
noncomputable def ko459 : Obj := ⟨(.type "function"), none, (.func (fnO (stA 64) "comparison" "comparison" 3 .none .none .none (.str "gateloom.evaluate" 775) none (.ref 458) .none 0)), #[]⟩
noncomputable def ko465 : Obj := ⟨(.type "code"), none, (.fields #[(.str "bitwise" 805), (.str "bitwise" 806), (.str "/claim/cut.py" 807), (.int 333 0), (.int 3 0), (.int 0 0), (.int 0 0), (.int 3 0), (.ref 460), (.bool true), (.int 181 0), (.ref 461), .none, (.ref 462), (.ref 463), (.ref 464), (.int 811 0), (.int 333 0), (.str "/claim/cut.py" 812)]), #[]⟩
noncomputable def ko466 : Obj := ⟨(.type "function"), none, (.func (fnO (stA 65) "bitwise" "bitwise" 3 .none .none .none (.str "gateloom.evaluate" 775) none (.ref 465) .none 0)), #[]⟩
noncomputable def ko472 : Obj := ⟨(.type "code"), none, (.fields #[(.str "binary" 814), (.str "binary" 815), (.str "/claim/cut.py" 816), (.int 347 0), (.int 4 0), (.int 0 0), (.int 0 0), (.int 3 0), (.ref 467), (.bool true), (.int 181 0), (.ref 468), .none, (.ref 469), (.ref 470), (.ref 471), (.int 822 0), (.int 347 0), (.str "/claim/cut.py" 823)]), #[]⟩
noncomputable def ko473 : Obj := ⟨(.type "function"), none, (.func (fnO (stA 66) "binary" "binary" 3 .none .none .none (.str "gateloom.evaluate" 775) none (.ref 472) .none 0)), #[]⟩
noncomputable def ko480 : Obj := ⟨(.type "function"), none, (.func (fnO (stA 67) "whole_of" "whole_of" 3 .none .none .none (.str "gateloom.evaluate" 775) none (.ref 479) .none 0)), #[]⟩
noncomputable def ko487 : Obj := ⟨(.type "function"), none, (.func (fnO (stA 68) "memory_word" "memory_word" 3 .none .none .none (.str "gateloom.evaluate" 775) none (.ref 486) .none 0)), #[]⟩
noncomputable def ko494 : Obj := ⟨(.type "function"), none, (.func (fnO (stA 69) "picked" "picked" 3 .none .none .none (.str "gateloom.evaluate" 775) none (.ref 493) .none 0)), #[]⟩
noncomputable def ko501 : Obj := ⟨(.type "function"), none, (.func (fnO (stA 70) "conditional" "conditional" 3 .none .none .none (.str "gateloom.evaluate" 775) none (.ref 500) .none 0)), #[]⟩
noncomputable def ko508 : Obj := ⟨(.type "function"), none, (.func (fnO (stA 71) "bits_needed" "bits_needed" 3 .none .none .none (.str "gateloom.evaluate" 775) none (.ref 507) .none 0)), #[]⟩
noncomputable def ko515 : Obj := ⟨(.type "function"), none, (.func (fnO (stA 72) "system_value" "system_value" 3 .none .none .none (.str "gateloom.evaluate" 775) none (.ref 514) .none 0)), #[]⟩
noncomputable def ko519 : Obj := ⟨(.type "code"), none, (.fields #[(.str "evaluate" 883), (.str "evaluate" 884), (.str "/claim/cut.py" 885), (.int 398 0), (.int 2 0), (.int 0 0), (.int 0 0), (.int 3 0), (.ref 516), (.bool true), (.int 181 0), (.ref 517), .none, .none, .none, (.ref 518), (.int 886 0), (.int 398 0), (.str "/claim/cut.py" 887)]), #[]⟩
noncomputable def ko520 : Obj := ⟨(.type "function"), none, (.func (fnO (stA 73) "evaluate" "evaluate" 3 .none .none .none (.str "gateloom.evaluate" 775) none (.ref 519) .none 0)), #[]⟩
noncomputable def ko526 : Obj := ⟨(.type "code"), none, (.fields #[(.str "locate" 889), (.str "locate" 890), (.str "/claim/cut.py" 891), (.int 429 0), (.int 2 0), (.int 0 0), (.int 0 0), (.int 3 0), (.ref 521), (.bool true), (.int 181 0), (.ref 522), .none, (.ref 523), (.ref 524), (.ref 525), (.int 895 0), (.int 429 0), (.str "/claim/cut.py" 896)]), #[]⟩
noncomputable def ko527 : Obj := ⟨(.type "function"), none, (.func (fnO (stA 74) "locate" "locate" 3 .none .none .none (.str "gateloom.evaluate" 775) none (.ref 526) .none 0)), #[]⟩
noncomputable def ko533 : Obj := ⟨(.type "code"), none, (.fields #[(.str "holder_width" 898), (.str "holder_width" 899), (.str "/claim/cut.py" 900), (.int 436 0), (.int 2 0), (.int 0 0), (.int 0 0), (.int 3 0), (.ref 528), (.bool true), (.int 181 0), (.ref 529), .none, (.ref 530), (.ref 531), (.ref 532), (.int 903 0), (.int 436 0), (.str "/claim/cut.py" 904)]), #[]⟩
noncomputable def ko534 : Obj := ⟨(.type "function"), none, (.func (fnO (stA 75) "holder_width" "holder_width" 3 .none .none .none (.str "gateloom.evaluate" 775) none (.ref 533) .none 0)), #[]⟩
noncomputable def ko540 : Obj := ⟨(.type "code"), none, (.fields #[(.str "resolve_target" 906), (.str "resolve_target" 907), (.str "/claim/cut.py" 908), (.int 440 0), (.int 2 0), (.int 0 0), (.int 0 0), (.int 3 0), (.ref 535), (.bool true), (.int 181 0), (.ref 536), .none, (.ref 537), (.ref 538), (.ref 539), (.int 922 0), (.int 440 0), (.str "/claim/cut.py" 923)]), #[]⟩
noncomputable def ko541 : Obj := ⟨(.type "function"), none, (.func (fnO (stA 76) "resolve_target" "resolve_target" 3 .none .none .none (.str "gateloom.evaluate" 775) none (.ref 540) .none 0)), #[]⟩
noncomputable def ko547 : Obj := ⟨(.type "code"), none, (.fields #[(.str "store_rows" 925), (.str "store_rows" 926), (.str "/claim/cut.py" 927), (.int 459 0), (.int 3 0), (.int 0 0), (.int 0 0), (.int 3 0), (.ref 542), (.bool true), (.int 181 0), (.ref 543), .none, (.ref 544), (.ref 545), (.ref 546), (.int 939 0), (.int 459 0), (.str "/claim/cut.py" 940)]), #[]⟩
noncomputable def ko548 : Obj := ⟨(.type "function"), none, (.func (fnO (stA 77) "store_rows" "store_rows" 3 .none .none .none (.str "gateloom.evaluate" 775) none (.ref 547) .none 0)), #[]⟩
noncomputable def ko561 : Obj := ⟨(.type "code"), none, (.fields #[(.str "__init__" 956), (.str "Store.__init__" 957), (.str "/claim/cut.py" 958), (.int 472 0), (.int 2 0), (.int 0 0), (.int 0 0), (.int 3 0), (.ref 556), (.bool true), (.int 181 0), (.ref 557), .none, (.ref 558), (.ref 559), (.ref 560), (.int 961 0), (.int 472 0), (.str "/claim/cut.py" 962)]), #[]⟩
noncomputable def ko562 : Obj := ⟨(.type "function"), none, (.func (fnO (stI 79 0) "__init__" "Store.__init__" 3 .none .none .none (.str "gateloom.store" 942) none (.ref 561) .none 0)), #[]⟩
noncomputable def ko568 : Obj := ⟨(.type "code"), none, (.fields #[(.str "get" 964), (.str "Store.get" 965), (.str "/claim/cut.py" 966), (.int 478 0), (.int 2 0), (.int 0 0), (.int 0 0), (.int 3 0), (.ref 563), (.bool true), (.int 181 0), (.ref 564), .none, (.ref 565), (.ref 566), (.ref 567), (.int 971 0), (.int 478 0), (.str "/claim/cut.py" 972)]), #[]⟩
noncomputable def ko569 : Obj := ⟨(.type "function"), none, (.func (fnO (stI 79 1) "get" "Store.get" 3 .none .none .none (.str "gateloom.store" 942) none (.ref 568) .none 0)), #[]⟩
noncomputable def ko576 : Obj := ⟨(.type "function"), none, (.func (fnO (stI 79 2) "word" "Store.word" 3 .none .none .none (.str "gateloom.store" 942) none (.ref 575) .none 0)), #[]⟩
noncomputable def ko582 : Obj := ⟨(.type "code"), none, (.fields #[(.str "set_bits" 985), (.str "Store.set_bits" 986), (.str "/claim/cut.py" 987), (.int 495 0), (.int 5 0), (.int 0 0), (.int 0 0), (.int 3 0), (.ref 577), (.bool true), (.int 181 0), (.ref 578), .none, (.ref 579), (.ref 580), (.ref 581), (.int 995 0), (.int 495 0), (.str "/claim/cut.py" 996)]), #[]⟩
noncomputable def ko583 : Obj := ⟨(.type "function"), none, (.func (fnO (stI 79 3) "set_bits" "Store.set_bits" 3 .none .none .none (.str "gateloom.store" 942) none (.ref 582) .none 0)), #[]⟩
noncomputable def ko585 (P : Params) : Obj := ⟨(.type "dict"), none, (.dict #[(dE P "__module__" 951 (.str "gateloom.store" 942)), (dE P "__firstlineno__" 955 (.int 470 954)), (dE P "__init__" 963 (.ref 562)), (dE P "get" 973 (.ref 569)), (dE P "word" 984 (.ref 576)), (dE P "set_bits" 997 (.ref 583)), (dE P "__static_attributes__" 1002 (.ref 584)), (dE P "__dict__" 1004 (.ref 587)), (dE P "__weakref__" 1006 (.ref 588)), (dE P "__doc__" 1007 .none)] 4), #[]⟩
noncomputable def ko586 : Obj := ⟨(.type "type"), none, (.cls ⟨"Store", [(.type "object")], [(.ref 586), (.type "object")], 585, "Store", true, [], [], false, none, false⟩), #[none, none, (some (.str "Store" 944)), (some (.str "Store" 952)), (some (.builtin "object.__new__")), (some (.bool true))]⟩
noncomputable def ko598 : Obj := ⟨(.type "tuple"), none, (.seq #[(.int 0 1022)] 0), #[]⟩
noncomputable def ko604 : Obj := ⟨(.type "code"), none, (.fields #[(.str "__init__" 1023), (.str "Context.__init__" 1024), (.str "/claim/cut.py" 1025), (.int 515 0), (.int 4 0), (.int 0 0), (.int 0 0), (.int 3 0), (.ref 599), (.bool true), (.int 181 0), (.ref 600), .none, (.ref 601), (.ref 602), (.ref 603), (.int 1030 0), (.int 515 0), (.str "/claim/cut.py" 1031)]), #[]⟩
noncomputable def ko605 : Obj := ⟨(.type "function"), none, (.func (fnO (stI 80 0) "__init__" "Context.__init__" 3 (.ref 598) .none .none (.str "gateloom.store" 942) none (.ref 604) .none 0)), #[]⟩
noncomputable def ko612 : Obj := ⟨(.type "function"), none, (.func (fnO (stI 80 1) "call" "Context.call" 3 .none .none .none (.str "gateloom.store" 942) none (.ref 611) .none 0)), #[]⟩
noncomputable def ko619 : Obj := ⟨(.type "function"), none, (.func (fnO (stI 80 2) "next_random" "Context.next_random" 3 .none .none .none (.str "gateloom.store" 942) none (.ref 618) .none 0)), #[]⟩
noncomputable def ko626 : Obj := ⟨(.type "function"), none, (.func (fnO (stI 80 3) "time_vec" "Context.time_vec" 3 .none .none .none (.str "gateloom.store" 942) none (.ref 625) .none 0)), #[]⟩
noncomputable def ko628 (P : Params) : Obj := ⟨(.type "dict"), none, (.dict #[(dE P "__module__" 1017 (.str "gateloom.store" 942)), (dE P "__firstlineno__" 1021 (.int 513 1020)), (dE P "__init__" 1032 (.ref 605)), (dE P "call" 1041 (.ref 612)), (dE P "next_random" 1049 (.ref 619)), (dE P "time_vec" 1057 (.ref 626)), (dE P "__static_attributes__" 1061 (.ref 627)), (dE P "__dict__" 1063 (.ref 630)), (dE P "__weakref__" 1065 (.ref 631)), (dE P "__doc__" 1066 .none)] 4), #[]⟩
noncomputable def ko629 : Obj := ⟨(.type "type"), none, (.cls ⟨"Context", [(.type "object")], [(.ref 629), (.type "object")], 628, "Context", true, [], [(.ref 677)], false, none, false⟩), #[none, none, (some (.str "Context" 1010)), (some (.str "Context" 1018)), (some (.builtin "object.__new__")), (some (.bool true))]⟩
noncomputable def ko641 : Obj := ⟨(.type "tuple"), none, (.seq #[(.int 10000 1085)] 0), #[]⟩
noncomputable def ko647 : Obj := ⟨(.type "code"), none, (.fields #[(.str "__init__" 1086), (.str "FunctionContext.__init__" 1087), (.str "/claim/cut.py" 1088), (.int 536 0), (.int 6 0), (.int 0 0), (.int 0 0), (.int 3 0), (.ref 642), (.bool true), (.int 181 0), (.ref 643), .none, (.ref 644), (.ref 645), (.ref 646), (.int 1095 0), (.int 536 0), (.str "/claim/cut.py" 1096)]), #[]⟩
noncomputable def ko648 : Obj := ⟨(.type "function"), none, (.func (fnO (stI 83 0) "__init__" "FunctionContext.__init__" 3 (.ref 641) .none .none (.str "gateloom.funcs" 1069) none (.ref 647) .none 0)), #[]⟩
noncomputable def ko654 : Obj := ⟨(.type "code"), none, (.fields #[(.str "call" 1098), (.str "FunctionContext.call" 1099), (.str "/claim/cut.py" 1100), (.int 543 0), (.int 3 0), (.int 0 0), (.int 0 0), (.int 3 0), (.ref 649), (.bool true), (.int 181 0), (.ref 650), .none, (.ref 651), (.ref 652), (.ref 653), (.int 1107 0), (.int 543 0), (.str "/claim/cut.py" 1108)]), #[]⟩
noncomputable def ko655 : Obj := ⟨(.type "function"), none, (.func (fnO (stI 83 1) "call" "FunctionContext.call" 3 .none .none .none (.str "gateloom.funcs" 1069) none (.ref 654) .none 0)), #[]⟩
noncomputable def ko659 : Obj := ⟨(.type "code"), none, (.fields #[(.str "new_frame" 1110), (.str "FunctionContext.new_frame" 1111), (.str "/claim/cut.py" 1112), (.int 558 0), (.int 3 0), (.int 0 0), (.int 0 0), (.int 3 0), (.ref 656), (.bool true), (.int 181 0), (.ref 657), .none, .none, .none, (.ref 658), (.int 1113 0), (.int 558 0), (.str "/claim/cut.py" 1114)]), #[]⟩
noncomputable def ko660 : Obj := ⟨(.type "function"), none, (.func (fnO (stI 83 2) "new_frame" "FunctionContext.new_frame" 3 .none .none .none (.str "gateloom.funcs" 1069) none (.ref 659) .none 0)), #[]⟩
noncomputable def ko666 : Obj := ⟨(.type "code"), none, (.fields #[(.str "burn" 1116), (.str "FunctionContext.burn" 1117), (.str "/claim/cut.py" 1118), (.int 570 0), (.int 1 0), (.int 0 0), (.int 0 0), (.int 3 0), (.ref 661), (.bool true), (.int 181 0), (.ref 662), .none, (.ref 663), (.ref 664), (.ref 665), (.int 1120 0), (.int 570 0), (.str "/claim/cut.py" 1121)]), #[]⟩
noncomputable def ko667 : Obj := ⟨(.type "function"), none, (.func (fnO (stI 83 3) "burn" "FunctionContext.burn" 3 .none .none .none (.str "gateloom.funcs" 1069) none (.ref 666) .none 0)), #[]⟩
noncomputable def ko673 : Obj := ⟨(.type "code"), none, (.fields #[(.str "is_true" 1123), (.str "FunctionContext.is_true" 1124), (.str "/claim/cut.py" 1125), (.int 575 0), (.int 2 0), (.int 0 0), (.int 0 0), (.int 3 0), (.ref 668), (.bool true), (.int 181 0), (.ref 669), .none, (.ref 670), (.ref 671), (.ref 672), (.int 1128 0), (.int 575 0), (.str "/claim/cut.py" 1129)]), #[]⟩
noncomputable def ko674 : Obj := ⟨(.type "function"), none, (.func (fnO (stI 83 4) "is_true" "FunctionContext.is_true" 3 .none .none .none (.str "gateloom.funcs" 1069) none (.ref 673) .none 0)), #[]⟩
noncomputable def ko676 (P : Params) : Obj := ⟨(.type "dict"), none, (.dict #[(dE P "__module__" 1080 (.str "gateloom.funcs" 1069)), (dE P "__firstlineno__" 1084 (.int 534 1083)), (dE P "__init__" 1097 (.ref 648)), (dE P "call" 1109 (.ref 655)), (dE P "new_frame" 1115 (.ref 660)), (dE P "burn" 1122 (.ref 667)), (dE P "is_true" 1130 (.ref 674)), (dE P "__static_attributes__" 1136 (.ref 675)), (dE P "__doc__" 1137 .none)] 2), #[]⟩
noncomputable def ko677 : Obj := ⟨(.type "type"), none, (.cls ⟨"FunctionContext", [(.ref 629)], [(.ref 677), (.ref 629), (.type "object")], 676, "FunctionContext", true, [], [], false, none, false⟩), #[(some (.ref 634)), none, (some (.str "FunctionContext" 1073)), (some (.str "FunctionContext" 1081)), (some (.builtin "object.__new__")), (some (.bool true))]⟩
noncomputable def ko685 : Obj := ⟨(.type "code"), none, (.fields #[(.str "run_block" 1140), (.str "run_block" 1141), (.str "/claim/cut.py" 1142), (.int 577 0), (.int 2 0), (.int 0 0), (.int 0 0), (.int 3 0), (.ref 680), (.bool true), (.int 181 0), (.ref 681), .none, (.ref 682), (.ref 683), (.ref 684), (.int 1147 0), (.int 577 0), (.str "/claim/cut.py" 1148)]), #[]⟩
noncomputable def ko686 : Obj := ⟨(.type "function"), none, (.func (fnO (stA 84) "run_block" "run_block" 3 .none .none .none (.str "gateloom.funcs" 1069) none (.ref 685) .none 0)), #[]⟩
noncomputable def ko692 : Obj := ⟨(.type "code"), none, (.fields #[(.str "run_set" 1150), (.str "run_set" 1151), (.str "/claim/cut.py" 1152), (.int 585 0), (.int 2 0), (.int 0 0), (.int 0 0), (.int 3 0), (.ref 687), (.bool true), (.int 181 0), (.ref 688), .none, (.ref 689), (.ref 690), (.ref 691), (.int 1157 0), (.int 585 0), (.str "/claim/cut.py" 1158)]), #[]⟩
noncomputable def ko693 : Obj := ⟨(.type "function"), none, (.func (fnO (stA 85) "run_set" "run_set" 3 .none .none .none (.str "gateloom.funcs" 1069) none (.ref 692) .none 0)), #[]⟩
noncomputable def ko700 : Obj := ⟨(.type "function"), none, (.func (fnO (stA 86) "run_case" "run_case" 3 .none .none .none (.str "gateloom.funcs" 1069) none (.ref 699) .none 0)), #[]⟩
noncomputable def ko706 : Obj := ⟨(.type "code"), none, (.fields #[(.str "run_while" 1173), (.str "run_while" 1174), (.str "/claim/cut.py" 1175), (.int 603 0), (.int 4 0), (.int 0 0), (.int 0 0), (.int 3 0), (.ref 701), (.bool true), (.int 181 0), (.ref 702), .none, (.ref 703), (.ref 704), (.ref 705), (.int 1181 0), (.int 603 0), (.str "/claim/cut.py" 1182)]), #[]⟩
noncomputable def ko707 : Obj := ⟨(.type "function"), none, (.func (fnO (stA 87) "run_while" "run_while" 3 .none .none .none (.str "gateloom.funcs" 1069) none (.ref 706) .none 0)), #[]⟩
noncomputable def ko714 : Obj := ⟨(.type "function"), none, (.func (fnO (stA 88) "run_repeat" "run_repeat" 3 .none .none .none (.str "gateloom.funcs" 1069) none (.ref 713) .none 0)), #[]⟩
noncomputable def ko721 : Obj := ⟨(.type "function"), none, (.func (fnO (stA 89) "run_for" "run_for" 3 .none .none .none (.str "gateloom.funcs" 1069) none (.ref 720) .none 0)), #[]⟩
noncomputable def ko727 : Obj := ⟨(.type "code"), none, (.fields #[(.str "run_statement" 1202), (.str "run_statement" 1203), (.str "/claim/cut.py" 1204), (.int 625 0), (.int 2 0), (.int 0 0), (.int 0 0), (.int 3 0), (.ref 722), (.bool true), (.int 181 0), (.ref 723), .none, (.ref 724), (.ref 725), (.ref 726), (.int 1208 0), (.int 625 0), (.str "/claim/cut.py" 1209)]), #[]⟩
noncomputable def ko728 : Obj := ⟨(.type "function"), none, (.func (fnO (stA 90) "run_statement" "run_statement" 3 .none .none .none (.str "gateloom.funcs" 1069) none (.ref 727) .none 0)), #[]⟩
noncomputable def ko734 : Obj := ⟨(.type "code"), none, (.fields #[(.str "net_kinds" 1213), (.str "net_kinds" 1214), (.str "/claim/cut.py" 1215), (.int 652 0), (.int 0 0), (.int 0 0), (.int 0 0), (.int 3 0), (.ref 729), (.bool true), (.int 181 0), (.ref 730), .none, (.ref 731), (.ref 732), (.ref 733), (.int 1216 0), (.int 652 0), (.str "/claim/cut.py" 1217)]), #[]⟩
noncomputable def ko735 : Obj := ⟨(.type "function"), none, (.func (fnO (stA 92) "net_kinds" "net_kinds" 3 .none .none .none (.str "gateloom.design" 1211) none (.ref 734) .none 0)), #[]⟩
noncomputable def ko748 : Obj := ⟨(.type "code"), none, (.fields #[(.str "__init__" 1231), (.str "Signal.__init__" 1232), (.str "/claim/cut.py" 1233), (.int 656 0), (.int 8 0), (.int 0 0), (.int 0 0), (.int 3 0), (.ref 743), (.bool true), (.int 181 0), (.ref 744), .none, (.ref 745), (.ref 746), (.ref 747), (.int 1242 0), (.int 656 0), (.str "/claim/cut.py" 1243)]), #[]⟩
noncomputable def ko749 : Obj := ⟨(.type "function"), none, (.func (fnO (stI 93 0) "__init__" "Signal.__init__" 3 .none .none .none (.str "gateloom.design" 1211) none (.ref 748) .none 0)), #[]⟩
noncomputable def ko755 : Obj := ⟨(.type "code"), none, (.fields #[(.str "is_net" 1245), (.str "Signal.is_net" 1246), (.str "/claim/cut.py" 1247), (.int 670 0), (.int 1 0), (.int 0 0), (.int 0 0), (.int 3 0), (.ref 750), (.bool true), (.int 181 0), (.ref 751), .none, (.ref 752), (.ref 753), (.ref 754), (.int 1249 0), (.int 670 0), (.str "/claim/cut.py" 1250)]), #[]⟩
noncomputable def ko756 : Obj := ⟨(.type "function"), none, (.func (fnO (stI 93 1) "is_net" "Signal.is_net" 3 .none .none .none (.str "gateloom.design" 1211) none (.ref 755) .none 0)), #[]⟩
noncomputable def ko763 : Obj := ⟨(.type "function"), none, (.func (fnO (stI 93 2) "is_memory" "Signal.is_memory" 3 .none .none .none (.str "gateloom.design" 1211) none (.ref 762) .none 0)), #[]⟩
noncomputable def ko770 : Obj := ⟨(.type "function"), none, (.func (fnO (stI 93 3) "words" "Signal.words" 3 .none .none .none (.str "gateloom.design" 1211) none (.ref 769) .none 0)), #[]⟩
noncomputable def ko777 : Obj := ⟨(.type "function"), none, (.func (fnO (stI 93 4) "offset" "Signal.offset" 3 .none .none .none (.str "gateloom.design" 1211) none (.ref 776) .none 0)), #[]⟩
noncomputable def ko784 : Obj := ⟨(.type "function"), none, (.func (fnO (stI 93 5) "place" "Signal.place" 3 .none .none .none (.str "gateloom.design" 1211) none (.ref 783) .none 0)), #[]⟩
noncomputable def ko786 (P : Params) : Obj := ⟨(.type "dict"), none, (.dict #[(dE P "__module__" 1226 (.str "gateloom.design" 1211)), (dE P "__firstlineno__" 1230 (.int 654 1229)), (dE P "__init__" 1244 (.ref 749)), (dE P "is_net" 1251 (.ref 756)), (dE P "is_memory" 1258 (.ref 763)), (dE P "words" 1265 (.ref 770)), (dE P "offset" 1274 (.ref 777)), (dE P "place" 1283 (.ref 784)), (dE P "__static_attributes__" 1296 (.ref 785)), (dE P "__dict__" 1298 (.ref 788)), (dE P "__weakref__" 1300 (.ref 789)), (dE P "__doc__" 1301 .none)] 4), #[]⟩
noncomputable def ko787 : Obj := ⟨(.type "type"), none, (.cls ⟨"Signal", [(.type "object")], [(.ref 787), (.type "object")], 786, "Signal", true, [], [], false, none, false⟩), #[none, none, (some (.str "Signal" 1219)), (some (.str "Signal" 1227)), (some (.builtin "object.__new__")), (some (.bool true))]⟩
noncomputable def ko804 : Obj := ⟨(.type "code"), none, (.fields #[(.str "__init__" 1316), (.str "Routine.__init__" 1317), (.str "/claim/cut.py" 1318), (.int 702 0), (.int 6 0), (.int 0 0), (.int 0 0), (.int 3 0), (.ref 799), (.bool true), (.int 181 0), (.ref 800), .none, (.ref 801), (.ref 802), (.ref 803), (.int 1325 0), (.int 702 0), (.str "/claim/cut.py" 1326)]), #[]⟩
noncomputable def ko805 : Obj := ⟨(.type "function"), none, (.func (fnO (stI 94 0) "__init__" "Routine.__init__" 3 .none .none .none (.str "gateloom.design" 1211) none (.ref 804) .none 0)), #[]⟩
noncomputable def ko810 : Obj := ⟨(.type "function"), none, (.func (fnO (stI 94 1) "inputs" "Routine.inputs" 3 .none .none .none (.str "gateloom.design" 1211) none (.ref 809) .none 0)), #[]⟩
noncomputable def ko812 (P : Params) : Obj := ⟨(.type "dict"), none, (.dict #[(dE P "__module__" 1311 (.str "gateloom.design" 1211)), (dE P "__firstlineno__" 1315 (.int 700 1314)), (dE P "__init__" 1327 (.ref 805)), (dE P "inputs" 1333 (.ref 810)), (dE P "__static_attributes__" 1348 (.ref 811)), (dE P "__dict__" 1350 (.ref 814)), (dE P "__weakref__" 1352 (.ref 815)), (dE P "__doc__" 1353 .none)] 4), #[]⟩
noncomputable def ko813 : Obj := ⟨(.type "type"), none, (.cls ⟨"Routine", [(.type "object")], [(.ref 813), (.type "object")], 812, "Routine", true, [], [], false, none, false⟩), #[none, none, (some (.str "Routine" 1304)), (some (.str "Routine" 1312)), (some (.builtin "object.__new__")), (some (.bool true))]⟩
noncomputable def ko830 : Obj := ⟨(.type "code"), none, (.fields #[(.str "__init__" 1368), (.str "Design.__init__" 1369), (.str "/claim/cut.py" 1370), (.int 722 0), (.int 1 0), (.int 0 0), (.int 0 0), (.int 3 0), (.ref 825), (.bool true), (.int 181 0), (.ref 826), .none, (.ref 827), (.ref 828), (.ref 829), (.int 1372 0), (.int 722 0), (.str "/claim/cut.py" 1373)]), #[]⟩
noncomputable def ko831 : Obj := ⟨(.type "function"), none, (.func (fnO (stI 95 0) "__init__" "Design.__init__" 3 .none .none .none (.str "gateloom.design" 1211) none (.ref 830) .none 0)), #[]⟩
noncomputable def ko837 : Obj := ⟨(.type "code"), none, (.fields #[(.str "add_signal" 1375), (.str "Design.add_signal" 1376), (.str "/claim/cut.py" 1377), (.int 735 0), (.int 8 0), (.int 0 0), (.int 0 0), (.int 3 0), (.ref 832), (.bool true), (.int 181 0), (.ref 833), .none, (.ref 834), (.ref 835), (.ref 836), (.int 1387 0), (.int 735 0), (.str "/claim/cut.py" 1388)]), #[]⟩
noncomputable def ko838 : Obj := ⟨(.type "function"), none, (.func (fnO (stI 95 1) "add_signal" "Design.add_signal" 3 .none .none .none (.str "gateloom.design" 1211) none (.ref 837) .none 0)), #[]⟩
noncomputable def ko845 : Obj := ⟨(.type "function"), none, (.func (fnO (stI 95 2) "add_scope" "Design.add_scope" 3 .none .none .none (.str "gateloom.design" 1211) none (.ref 844) .none 0)), #[]⟩
noncomputable def ko851 : Obj := ⟨(.type "code"), none, (.fields #[(.str "add_routine" 1398), (.str "Design.add_routine" 1399), (.str "/claim/cut.py" 1400), (.int 745 0), (.int 5 0), (.int 0 0), (.int 0 0), (.int 3 0), (.ref 846), (.bool true), (.int 181 0), (.ref 847), .none, (.ref 848), (.ref 849), (.ref 850), (.int 1407 0), (.int 745 0), (.str "/claim/cut.py" 1408)]), #[]⟩
noncomputable def ko852 : Obj := ⟨(.type "function"), none, (.func (fnO (stI 95 3) "add_routine" "Design.add_routine" 3 .none .none .none (.str "gateloom.design" 1211) none (.ref 851) .none 0)), #[]⟩
noncomputable def ko859 : Obj := ⟨(.type "function"), none, (.func (fnO (stI 95 4) "add_process" "Design.add_process" 3 .none .none .none (.str "gateloom.design" 1211) none (.ref 858) .none 0)), #[]⟩
noncomputable def ko866 : Obj := ⟨(.type "function"), none, (.func (fnO (stI 95 5) "find" "Design.find" 3 .none .none .none (.str "gateloom.design" 1211) none (.ref 865) .none 0)), #[]⟩
noncomputable def ko872 : Obj := ⟨(.type "code"), none, (.fields #[(.str "routine" 1429), (.str "Design.routine" 1430), (.str "/claim/cut.py" 1431), (.int 756 0), (.int 2 0), (.int 0 0), (.int 0 0), (.int 3 0), (.ref 867), (.bool true), (.int 181 0), (.ref 868), .none, (.ref 869), (.ref 870), (.ref 871), (.int 1435 0), (.int 756 0), (.str "/claim/cut.py" 1436)]), #[]⟩
noncomputable def ko873 : Obj := ⟨(.type "function"), none, (.func (fnO (stI 95 6) "routine" "Design.routine" 3 .none .none .none (.str "gateloom.design" 1211) none (.ref 872) .none 0)), #[]⟩
noncomputable def ko875 (P : Params) : Obj := ⟨(.type "dict"), none, (.dict #[(dE P "__module__" 1363 (.str "gateloom.design" 1211)), (dE P "__firstlineno__" 1367 (.int 720 1366)), (dE P "__init__" 1374 (.ref 831)), (dE P "add_signal" 1389 (.ref 838)), (dE P "add_scope" 1397 (.ref 845)), (dE P "add_routine" 1409 (.ref 852)), (dE P "add_process" 1420 (.ref 859)), (dE P "find" 1428 (.ref 866)), (dE P "routine" 1437 (.ref 873)), (dE P "__static_attributes__" 1449 (.ref 874)), (dE P "__dict__" 1451 (.ref 877)), (dE P "__weakref__" 1453 (.ref 878)), (dE P "__doc__" 1454 .none)] 4), #[]⟩
noncomputable def ko876 : Obj := ⟨(.type "type"), none, (.cls ⟨"Design", [(.type "object")], [(.ref 876), (.type "object")], 875, "Design", true, [], [], false, none, false⟩), #[none, none, (some (.str "Design" 1356)), (some (.str "Design" 1364)), (some (.builtin "object.__new__")), (some (.bool true))]⟩
noncomputable def ko886 : Obj := ⟨(.type "code"), none, (.fields #[(.str "_law_row" 1459), (.str "_law_row" 1460), (.str "/claim/cut.py" 1461), (.int 764 0), (.int 1 0), (.int 0 0), (.int 0 0), (.int 3 0), (.ref 881), (.bool true), (.int 181 0), (.ref 882), .none, (.ref 883), (.ref 884), (.ref 885), (.int 1467 0), (.int 764 0), (.str "/claim/cut.py" 1468)]), #[]⟩
noncomputable def ko887 : Obj := ⟨(.type "function"), none, (.func (fnO (stA 97) "_law_row" "_law_row" 3 .none .none .none (.str "law_nn0340_02" 1457) none (.ref 886) .none 0)), #[]⟩
noncomputable def ko893 : Obj := ⟨(.type "code"), none, (.fields #[(.str "_law_next" 1470), (.str "_law_next" 1471), (.str "/claim/cut.py" 1472), (.int 777 0), (.int 1 0), (.int 0 0), (.int 0 0), (.int 3 0), (.ref 888), (.bool true), (.int 181 0), (.ref 889), .none, (.ref 890), (.ref 891), (.ref 892), (.int 1474 0), (.int 777 0), (.str "/claim/cut.py" 1475)]), #[]⟩
noncomputable def ko894 : Obj := ⟨(.type "function"), none, (.func (fnO (stA 98) "_law_next" "_law_next" 3 .none .none .none (.str "law_nn0340_02" 1457) none (.ref 893) .none 0)), #[]⟩
noncomputable def ko900 : Obj := ⟨(.type "code"), none, (.fields #[(.str "_law_bits" 1477), (.str "_law_bits" 1478), (.str "/claim/cut.py" 1479), (.int 779 0), (.int 2 0), (.int 0 0), (.int 0 0), (.int 3 0), (.ref 895), (.bool true), (.int 181 0), (.ref 896), .none, (.ref 897), (.ref 898), (.ref 899), (.int 1486 0), (.int 779 0), (.str "/claim/cut.py" 1487)]), #[]⟩
noncomputable def ko901 : Obj := ⟨(.type "function"), none, (.func (fnO (stA 99) "_law_bits" "_law_bits" 3 .none .none .none (.str "law_nn0340_02" 1457) none (.ref 900) .none 0)), #[]⟩
noncomputable def ko907 : Obj := ⟨(.type "code"), none, (.fields #[(.str "_law_made" 1489), (.str "_law_made" 1490), (.str "/claim/cut.py" 1491), (.int 787 0), (.int 1 0), (.int 0 0), (.int 0 0), (.int 3 0), (.ref 902), (.bool true), (.int 181 0), (.ref 903), .none, (.ref 904), (.ref 905), (.ref 906), (.int 1496 0), (.int 787 0), (.str "/claim/cut.py" 1497)]), #[]⟩
noncomputable def ko908 : Obj := ⟨(.type "function"), none, (.func (fnO (stA 100) "_law_made" "_law_made" 3 .none .none .none (.str "law_nn0340_02" 1457) none (.ref 907) .none 0)), #[]⟩
noncomputable def ko914 : Obj := ⟨(.type "code"), none, (.fields #[(.str "_law_lv" 1499), (.str "_law_lv" 1500), (.str "/claim/cut.py" 1501), (.int 794 0), (.int 3 0), (.int 0 0), (.int 0 0), (.int 3 0), (.ref 909), (.bool true), (.int 181 0), (.ref 910), .none, (.ref 911), (.ref 912), (.ref 913), (.int 1505 0), (.int 794 0), (.str "/claim/cut.py" 1506)]), #[]⟩
noncomputable def ko915 : Obj := ⟨(.type "function"), none, (.func (fnO (stA 101) "_law_lv" "_law_lv" 3 .none .none .none (.str "law_nn0340_02" 1457) none (.ref 914) .none 0)), #[]⟩
noncomputable def ko921 : Obj := ⟨(.type "code"), none, (.fields #[(.str "_law_function" 1508), (.str "_law_function" 1509), (.str "/claim/cut.py" 1510), (.int 796 0), (.int 4 0), (.int 0 0), (.int 0 0), (.int 3 0), (.ref 916), (.bool true), (.int 181 0), (.ref 917), .none, (.ref 918), (.ref 919), (.ref 920), (.int 1516 0), (.int 796 0), (.str "/claim/cut.py" 1517)]), #[]⟩
noncomputable def ko922 : Obj := ⟨(.type "function"), none, (.func (fnO (stA 102) "_law_function" "_law_function" 3 .none .none .none (.str "law_nn0340_02" 1457) none (.ref 921) .none 0)), #[]⟩
noncomputable def ko928 : Obj := ⟨(.type "code"), none, (.fields #[(.str "_law_refused" 1519), (.str "_law_refused" 1520), (.str "/claim/cut.py" 1521), (.int 803 0), (.int 3 0), (.int 0 0), (.int 0 0), (.int 3 0), (.ref 923), (.bool true), (.int 181 0), (.ref 924), .none, (.ref 925), (.ref 926), (.ref 927), (.int 1526 0), (.int 803 0), (.str "/claim/cut.py" 1527)]), #[]⟩
noncomputable def ko929 : Obj := ⟨(.type "function"), none, (.func (fnO (stA 103) "_law_refused" "_law_refused" 3 .none .none .none (.str "law_nn0340_02" 1457) none (.ref 928) .none 0)), #[]⟩
noncomputable def ko933 : Obj := ⟨(.type "code"), none, (.fields #[(.str "law" 1529), (.str "law" 1530), (.str "/claim/cut.py" 1531), (.int 809 0), (.int 1 0), (.int 0 0), (.int 0 0), (.int 3 0), (.ref 930), (.bool true), (.int 181 0), (.ref 931), .none, .none, .none, (.ref 932), (.int 1532 0), (.int 809 0), (.str "/claim/cut.py" 1533)]), #[]⟩
noncomputable def ko934 : Obj := ⟨(.type "function"), none, (.func (fnO (stA 104) "law" "law" 3 .none .none .none (.str "law_nn0340_02" 1457) none (.ref 933) .none 0)), #[]⟩
noncomputable def KK (P : Params) : Frag := [(2, ko2 P), (3, ko3 P), (21, ko21), (29, ko29), (35, ko35), (36, ko36), (38, ko38 P), (39, ko39), (51, ko51 P), (52, ko52), (63, ko63 P), (64, ko64), (72, ko72), (73, ko73), (74, ko74), (80, ko80), (81, ko81), (88, ko88), (94, ko94), (95, ko95), (102, ko102), (108, ko108), (109, ko109), (115, ko115), (116, ko116), (123, ko123), (129, ko129), (130, ko130), (136, ko136), (137, ko137), (143, ko143), (144, ko144), (151, ko151), (157, ko157), (158, ko158), (165, ko165), (171, ko171), (172, ko172), (178, ko178), (179, ko179), (186, ko186), (193, ko193), (200, ko200), (207, ko207), (214, ko214), (221, ko221), (228, ko228), (235, ko235), (242, ko242), (249, ko249), (256, ko256), (263, ko263), (270, ko270), (277, ko277), (284, ko284), (291, ko291), (297, ko297), (298, ko298), (305, ko305), (312, ko312), (319, ko319), (325, ko325), (326, ko326), (333, ko333), (340, ko340), (347, ko347), (354, ko354), (361, ko361), (368, ko368), (375, ko375), (382, ko382), (389, ko389), (396, ko396), (402, ko402), (403, ko403), (410, ko410), (417, ko417), (424, ko424), (431, ko431), (438, ko438), (445, ko445), (451, ko451), (452, ko452), (458, ko458), (459, ko459), (465, ko465), (466, ko466), (472, ko472), (473, ko473), (480, ko480), (487, ko487), (494, ko494), (501, ko501), (508, ko508), (515, ko515), (519, ko519), (520, ko520), (526, ko526), (527, ko527), (533, ko533), (534, ko534), (540, ko540), (541, ko541), (547, ko547), (548, ko548), (561, ko561), (562, ko562), (568, ko568), (569, ko569), (576, ko576), (582, ko582), (583, ko583), (585, ko585 P), (586, ko586), (598, ko598), (604, ko604), (605, ko605), (612, ko612), (619, ko619), (626, ko626), (628, ko628 P), (629, ko629), (641, ko641), (647, ko647), (648, ko648), (654, ko654), (655, ko655), (659, ko659), (660, ko660), (666, ko666), (667, ko667), (673, ko673), (674, ko674), (676, ko676 P), (677, ko677), (685, ko685), (686, ko686), (692, ko692), (693, ko693), (700, ko700), (706, ko706), (707, ko707), (714, ko714), (721, ko721), (727, ko727), (728, ko728), (734, ko734), (735, ko735), (748, ko748), (749, ko749), (755, ko755), (756, ko756), (763, ko763), (770, ko770), (777, ko777), (784, ko784), (786, ko786 P), (787, ko787), (804, ko804), (805, ko805), (810, ko810), (812, ko812 P), (813, ko813), (830, ko830), (831, ko831), (837, ko837), (838, ko838), (845, ko845), (851, ko851), (852, ko852), (859, ko859), (866, ko866), (872, ko872), (873, ko873), (875, ko875 P), (876, ko876), (886, ko886), (887, ko887), (893, ko893), (894, ko894), (900, ko900), (901, ko901), (907, ko907), (908, ko908), (914, ko914), (915, ko915), (921, ko921), (922, ko922), (928, ko928), (929, ko929), (933, ko933), (934, ko934)]
noncomputable def KKas : List Addr := [2, 3, 21, 29, 35, 36, 38, 39, 51, 52, 63, 64, 72, 73, 74, 80, 81, 88, 94, 95, 102, 108, 109, 115, 116, 123, 129, 130, 136, 137, 143, 144, 151, 157, 158, 165, 171, 172, 178, 179, 186, 193, 200, 207, 214, 221, 228, 235, 242, 249, 256, 263, 270, 277, 284, 291, 297, 298, 305, 312, 319, 325, 326, 333, 340, 347, 354, 361, 368, 375, 382, 389, 396, 402, 403, 410, 417, 424, 431, 438, 445, 451, 452, 458, 459, 465, 466, 472, 473, 480, 487, 494, 501, 508, 515, 519, 520, 526, 527, 533, 534, 540, 541, 547, 548, 561, 562, 568, 569, 576, 582, 583, 585, 586, 598, 604, 605, 612, 619, 626, 628, 629, 641, 647, 648, 654, 655, 659, 660, 666, 667, 673, 674, 676, 677, 685, 686, 692, 693, 700, 706, 707, 714, 721, 727, 728, 734, 735, 748, 749, 755, 756, 763, 770, 777, 784, 786, 787, 804, 805, 810, 812, 813, 830, 831, 837, 838, 845, 851, 852, 859, 866, 872, 873, 875, 876, 886, 887, 893, 894, 900, 901, 907, 908, 914, 915, 921, 922, 928, 929, 933, 934]
theorem KKas_eq (P : Params) : KKas = (KK P).map (·.1) := by kernel_rfl
noncomputable def qv : Program := view PG [lawIx]
noncomputable def loose : List Str := PG.boundNames.filter fun x => x != ("law" : Str)
noncomputable def T00 (P : Params) : BT := treeOf (boot_heap P).objs.toList
theorem hd_open : ∀ w : World, (fencedOpening treeTable PG w 6000).map (fun s => (s.heap, s.gens, s.drawn, s.toks)) = some (boot_heap w.params, #[], boot_drawn, boot_toks) :=
  boot_open (by kernel_rfl) (by kernel_rfl) (fun s => by kernel_rfl)
theorem hd_boot (P : Params) : boot_heap P = absHeap (T00 P) 11 {} := by kernel_rfl
theorem hd_size (w : World) : ((boot_heap w.params).isNs mainGlobals, (boot_heap w.params).objs.size, (boot_heap w.params).nsMap mainGlobals "__annotations__") = (true, 11, some (.ref 6)) := by kernel_rfl
noncomputable def Xt (s : Shared) : Bool := xlAt qv [] s && recOk (RowW.records RW.row.toRowW) s
noncomputable abbrev hk : Hook := kHook KK KKas KKas_eq
theorem hd_left : LeftO PG qv loose Xt hk.obs hk.val 6000 true :=
  left_of hd_open hd_boot hd_size fun w os => by kernel_rfl
end Mine
end
section
open PySem PySem.W PyProof.Rows
set_option maxRecDepth 100000
set_option maxHeartbeats 400000
namespace Mine
noncomputable def lawRec : DefRec := match defOf qv RW.row.name with | some (d, _) => d | none => ⟨"", ⟨[], [], none, [], [], none, []⟩, [], default, ⟨0, 0, 0, 0⟩⟩
theorem j1 : defOf qv RW.row.toRowW.name = some (lawRec, []) := by kernel_rfl
theorem j2 : RW.row.toRowW.prog.theDef RW.row.toRowW.name = some (lawRec.params, lawRec.body, lawRec.scope) := by kernel_rfl
theorem j3 : kwWritten? lawRec.params.kwonlyargs lawRec.params.kw_defaults = some [] := by kernel_rfl
theorem j4 : (chainsOk qv && opensWell RW.row.toRowW.prog && (frees RW.row.toRowW && RW.row.within.isEmpty)) = true := by kernel_rfl
theorem j5 : RW.row.toRowW.prog.bare := ⟨rfl, rfl, rfl, rfl, rfl, by decide +kernel⟩
theorem j6 : RW.row.toRowW.promised := ⟨[.list []], by kernel_rfl, by kernel_rfl⟩
theorem hd_said : RW.wellSaid = true := (congrFun PySem.W.Fast.te9446332074065402090 RW).trans (by kernel_rfl)
end Mine
end
section
set_option genCtorIdx false
open PySem PySem.W PyProof.Rows
namespace Mine
theorem ns {α : Type} {a : α} {P : Prop} (h : none = some a) : P := by cases h
/-! values of the small logic -/
inductive MV where
  | none
  | bool (b : Bool)
  | int (i : Int)
  | sym (n : Nat)
  | txt (s : Str)
  | tup (xs : List MV)
  | ref (a : Addr)
  | con (v : Value)
set_option genCtorIdx true in
set_option genInjectivity true in
inductive MObj where
  | list (xs : List MV)
  | dI (kvs : List (Int × MV))
  | dS (kvs : List (Nat × MV))
  | inst (C : Addr) (fs : List (Nat × MV))
  | exc (C : Addr) (fs : List (Nat × MV))
  | frz (ns : List Int)
noncomputable def MObj.isFrz : MObj → Bool
  | .frz _ => true
  | _ => false
noncomputable abbrev Hp := Addr → Option MObj
noncomputable abbrev Loc := List (Option MV)
noncomputable def Hp.put (σ : Hp) (a : Addr) (o : MObj) : Hp := fun b => if b = a then some o else σ b
set_option genCtorIdx true in
inductive SrcK where
  | exp | range
inductive ME where
  | none
  | bool (b : Bool)
  | int (i : Int)
  | sym (n : Nat)
  | loc (i : Nat)
  | con (v : Value)
  | gint (i : Int)
  | attr (e : ME) (n : Nat)
  | item (e i : ME)
  | slice (e lo hi : ME)
  | bin (op : Operator) (a b : ME)
  | not (e : ME)
  | neg (e : ME)
  | and (es : List ME)
  | or (es : List ME)
  | cmp (op : CmpOp) (a b : ME)
  | ite (c a b : ME)
  | tup (es : List ME)
  | list (es : List ME)
  | dI
  | dS
  | call (f : ME) (args : List ME)
  | meth (o : ME) (n : Nat) (args : List ME)
  | comp (elt : ME) (ti : List Nat) (one : Bool) (k : SrcK) (e1 e2 : ME) (conds : List ME)
inductive MT where
  | nm (i : Nat)
  | attr (e : ME) (n : Nat)
  | item (e i : ME)
  | tup (is : List Nat)
inductive MS where
  | expr (e : ME)
  | cont
  | ret (e : ME)
  | asg (t : MT) (e : ME)
  | aug (t : MT) (op : Operator) (e : ME)
  | ite (c : ME) (a b : List MS)
  | whl (c : ME) (b : List MS)
  | for (t : MT) (k : SrcK) (e1 e2 : ME) (b : List MS)
  | rse (e : ME)
  | tryF (b f : List MS)
  | tryX (b : List MS) (ty : ME) (i : Nat) (h : List MS)
set_option genCtorIdx true in
inductive Out where
  | next | cont | brk
  | ret (v : MV)
structure Tab where
  sym : List Str
  plain : List (Addr × List Nat)
  eplain : List (Addr × List Nat)
  meths : List ((Addr × Nat) × Addr)
  clsAttrs : List ((Addr × Nat) × Addr)
  subs : List ((Addr × Addr) × Bool)
noncomputable def sAppend : Nat := 0
noncomputable def sPop : Nat := 1
noncomputable def sReverse : Nat := 2
noncomputable def sGet : Nat := 3
noncomputable def Tab.okAttr (T : Tab) (C : Addr) (n : Nat) : Bool := (T.plain.lookup C).any fun l => l.contains n
noncomputable def Tab.okExc (T : Tab) (C : Addr) (n : Nat) : Bool := (T.eplain.lookup C).any fun l => l.contains n
noncomputable def truthP (v : MV) (Q : Bool → Prop) : Prop := match v with
  | .bool b => Q b
  | .int i => Q (decide (i ≠ 0))
  | .none => Q false
  | _ => False
mutual
noncomputable def MV.isData (n : Nat) (m : MV) : Bool := match m with
  | .none => true
  | .bool _ => true
  | .int _ => true
  | .sym _ => true
  | .tup xs => match n with
    | 0 => false
    | n + 1 => isDatasN n xs
  | _ => false
termination_by structural m
noncomputable def isDatasN (n : Nat) (l : List MV) : Bool := match l with
  | [] => true
  | x :: r => x.isData n && isDatasN n r
termination_by structural l
end
noncomputable def isDatas (xs : List MV) : Bool := isDatasN 8 xs
mutual
noncomputable def MV.beq : MV → MV → Bool
  | .none, y => match y with
    | .none => true
    | _ => false
  | .bool a, y => match y with
    | .bool b => a == b
    | .int j => decide ((if a then 1 else 0) = j)
    | _ => false
  | .int i, y => match y with
    | .bool b => decide (i = (if b then 1 else 0))
    | .int j => decide (i = j)
    | _ => false
  | .sym n, y => match y with
    | .sym m => decide (n = m)
    | _ => false
  | .tup xs, y => match y with
    | .tup ys => beqs xs ys
    | _ => false
  | _, _ => false
noncomputable def beqs : List MV → List MV → Bool
  | [], l => match l with
    | [] => true
    | _ => false
  | x :: xs, l => match l with
    | y :: ys => x.beq y && beqs xs ys
    | [] => false
end
noncomputable def locP (o : Option (Option MV)) (Q : MV → Prop) : Prop := match o with
  | some (some v) => Q v
  | _ => False
theorem locP_inv {o : Option (Option MV)} {Q : MV → Prop} (q : locP o Q) : ∃ v, o = some (some v) ∧ Q v := by
  cases o with
  | none => exact False.elim q
  | some o => cases o with
    | none => exact False.elim q
    | some v => exact ⟨v, rfl, q⟩
noncomputable def setP : Loc → Nat → MV → (Loc → Prop) → Prop
  | [], _, _, _ => False
  | _ :: r, 0, v, K => K (some v :: r)
  | x :: r, n + 1, v, K => setP r n v fun l => K (x :: l)
theorem setP_inv : ∀ {loc : Loc} {i : Nat} {v : MV} {K : Loc → Prop}, setP loc i v K → i < loc.length ∧ K (loc.set i (some v))
  | [], _, _, _, q => False.elim q
  | _ :: r, 0, v, K, q => ⟨Nat.succ_pos _, q⟩
  | x :: r, n + 1, v, K, q => ⟨Nat.succ_lt_succ (setP_inv (loc := r) (i := n) q).1, (setP_inv (loc := r) (i := n) q).2⟩
noncomputable def manyP (loc : Loc) (is : List Nat) (xs : List MV) (K : Loc → Prop) : Prop := match is with
  | [] => match xs with
    | [] => K loc
    | _ => False
  | i :: is => match xs with
    | [] => False
    | x :: xs => setP loc i x fun l => manyP l is xs K
termination_by structural is
noncomputable def nthP (b : Nat) (xs : List MV) (n : Nat) (Q : MV → Prop) : Prop := match xs with
  | [] => False
  | x :: r => match b with
    | 0 => False
    | b + 1 => match n with
      | 0 => Q x
      | n + 1 => nthP b r n Q
termination_by structural xs
theorem nthP_inv : ∀ {b : Nat} {xs : List MV} {n : Nat} {Q : MV → Prop}, nthP b xs n Q → n < b ∧ ∃ x, xs[n]? = some x ∧ Q x
  | _, [], _, _, q => False.elim q
  | 0, _ :: _, _, _, q => False.elim q
  | b + 1, x :: _, 0, Q, q => ⟨Nat.succ_pos _, x, rfl, q⟩
  | b + 1, _ :: r, n + 1, Q, q => ⟨Nat.succ_lt_succ (nthP_inv (b := b) (xs := r) (n := n) (Q := Q) q).1, (nthP_inv (b := b) (xs := r) (n := n) (Q := Q) q).2⟩
noncomputable def seqIx (i : Int) (n : Nat) : Option Nat :=
  if 0 ≤ i then (if i < n then some i.toNat else none) else if 0 ≤ i + n then some (i + n).toNat else none
noncomputable def lineL : Nat := 16777216
noncomputable def newP (o : MObj) (σ : Hp) (Q : MV → Hp → Prop) : Prop := ∀ a, σ a = none → Q (.ref a) (σ.put a o)
noncomputable def intP (a b : MV) (K : Int → Int → Prop) : Prop := match a with
  | .int i => match b with
    | .int j => K i j
    | _ => False
  | _ => False
noncomputable def addP (a b : MV) (σ : Hp) (Q : MV → Hp → Prop) : Prop := match a with
  | .int i => match b with
    | .int j => Q (.int (i + j)) σ
    | _ => False
  | .tup xs => match b with
    | .tup ys => (xs ≠ [] ∧ ys ≠ [] ∧ xs.length + ys.length ≤ lineL) ∧ Q (.tup (xs ++ ys)) σ
    | _ => False
  | .ref l => match b with
    | .ref k => ∃ xs ys, σ l = some (.list xs) ∧ σ k = some (.list ys) ∧ xs.length + ys.length ≤ lineL ∧ newP (.list (xs ++ ys)) σ Q
    | _ => False
  | .sym _ => match b with
    | .txt s => s.length ≤ 1000 ∧ ∀ s', Q (.txt s') σ
    | _ => False
  | _ => False
noncomputable def mulP (a b : MV) (σ : Hp) (Q : MV → Hp → Prop) : Prop := match a with
  | .int i => match b with
    | .int j => (i.natAbs < 2 ^ 64 ∧ j.natAbs < 2 ^ 64) ∧ Q (.int (i * j)) σ
    | _ => False
  | .ref l => match b with
    | .int n => ∃ xs, σ l = some (.list xs) ∧ 0 ≤ n ∧ n < 2 ^ 62 ∧ xs.length * n.toNat ≤ 256 ∧ newP (.list (List.replicate n.toNat xs).flatten) σ Q
    | _ => False
  | _ => False
noncomputable def binP (op : Operator) (a b : MV) (σ : Hp) (Q : MV → Hp → Prop) : Prop := match op with
  | .Add => addP a b σ Q
  | .Sub => intP a b fun i j => Q (.int (i - j)) σ
  | .Mult => mulP a b σ Q
  | .FloorDiv => intP a b fun i j => (j ≠ 0 ∧ j.natAbs < 1073741824) ∧ Q (.int (i.fdiv j)) σ
  | .Mod => intP a b fun i j => j ≠ 0 ∧ Q (.int (i.fmod j)) σ
  | .Pow => intP a b fun i j => (i.natAbs < 2 ^ 64 ∧ 0 ≤ j ∧ j ≤ 1000000) ∧ Q (.int (i ^ j.toNat)) σ
  | .LShift => intP a b fun i j => (i.natAbs < 2 ^ 64 ∧ 0 ≤ j ∧ j ≤ 1000000) ∧ Q (.int (i * 2 ^ j.toNat)) σ
  | .RShift => intP a b fun i j => 0 ≤ j ∧ Q (.int (i.fdiv (2 ^ j.toNat))) σ
  | .BitAnd => intP a b fun i j => Q (.int (Builtin.bitAnd i j)) σ
  | .BitOr => intP a b fun i j => Q (.int (Builtin.bitOr i j)) σ
  | .BitXor => intP a b fun i j => Q (.int (Builtin.bitXor i j)) σ
  | _ => False
noncomputable def dataP (a b : MV) (Q : Bool → Prop) : Prop := (a.isData 8 = true ∧ b.isData 8 = true) ∧ Q (a.beq b)
noncomputable def eqP (a b : MV) (σ : Hp) (Q : Bool → Prop) : Prop := match a with
  | .int i => match b with
    | .int j => Q (decide (i = j))
    | b => dataP (.int i) b Q
  | .sym n => match b with
    | .sym m => Q (n == m)
    | b => dataP (.sym n) b Q
  | .ref l => match b with
    | .ref k => ∃ xs ys, σ l = some (.list xs) ∧ σ k = some (.list ys) ∧ (isDatas xs = true ∧ isDatas ys = true) ∧ Q (beqs xs ys)
    | _ => False
  | a => dataP a b Q
noncomputable def nonP (a b : MV) (Q : Bool → Prop) : Prop := match b with
  | .none => match a with
    | .none => Q true
    | .txt _ => False
    | .con _ => False
    | _ => Q false
  | _ => False
noncomputable def inP (a b : MV) (σ : Hp) (Q : Bool → Prop) : Prop := match b with
  | .tup xs => (a.isData 8 = true ∧ isDatas xs = true) ∧ Q (xs.any fun x => x.beq a)
  | .ref l => ∃ xs, σ l = some (.list xs) ∧ (a.isData 8 = true ∧ isDatas xs = true) ∧ Q (xs.any fun x => x.beq a)
  | _ => False
noncomputable def cmpP (op : CmpOp) (a b : MV) (σ : Hp) (Q : Bool → Prop) : Prop := match op with
  | .Eq => eqP a b σ Q
  | .NotEq => eqP a b σ fun c => Q (!c)
  | .Lt => intP a b fun i j => Q (decide (i < j))
  | .LtE => intP a b fun i j => Q (decide (i ≤ j))
  | .Gt => intP a b fun i j => Q (decide (j < i))
  | .GtE => intP a b fun i j => Q (decide (j ≤ i))
  | .Is => nonP a b Q
  | .IsNot => nonP a b fun c => Q (!c)
  | .In => inP a b σ Q
  | .NotIn => inP a b σ fun c => Q (!c)
noncomputable def natP (i : MV) (K : Nat → Prop) : Prop := match i with
  | .int k => match k with
    | .ofNat n => K n
    | .negSucc _ => False
  | _ => False
theorem natP_inv {i : MV} {K : Nat → Prop} (q : natP i K) : ∃ n : Nat, i = .int n ∧ K n := by
  cases i with
  | int k => cases k with
    | ofNat n => exact ⟨n, rfl, q⟩
    | negSucc n => exact False.elim q
  | _ => exact False.elim q
noncomputable def itemR (a : Addr) (i : MV) (σ : Hp) (Q : MV → Hp → Prop) : Prop :=
  (∃ k xs j x, i = .int k ∧ (-1000000 ≤ k ∧ k ≤ 1000000) ∧ σ a = some (.list xs) ∧ seqIx k xs.length = some j ∧ xs[j]? = some x ∧ Q x σ) ∨
    ∃ n kvs x, i = .sym n ∧ σ a = some (.dS kvs) ∧ kvs.lookup n = some x ∧ Q x σ
noncomputable def itemP (o i : MV) (σ : Hp) (Q : MV → Hp → Prop) : Prop := match o with
  | .tup xs => natP i fun n => nthP 64 xs n fun x => Q x σ
  | .ref a => itemR a i σ Q
  | _ => False
noncomputable def cutL (lo hi : MV) (xs : List MV) (K : List MV → Prop) : Prop :=
  (∃ h, lo = .none ∧ hi = .int h ∧ 0 ≤ h ∧ K (xs.take h.toNat)) ∨ (∃ l, lo = .int l ∧ hi = .none ∧ 0 ≤ l ∧ K (xs.drop l.toNat)) ∨
    ∃ l h, lo = .int l ∧ hi = .int h ∧ 0 ≤ l ∧ 0 ≤ h ∧ K ((xs.take h.toNat).drop l.toNat)
noncomputable def sliceP (o lo hi : MV) (σ : Hp) (Q : MV → Hp → Prop) : Prop :=
  (∃ xs l, o = .tup xs ∧ lo = .int l ∧ hi = .none ∧ (1 ≤ l ∧ l ≤ xs.length ∧ xs.length ≤ lineL) ∧ Q (.tup (xs.drop l.toNat)) σ) ∨
    ∃ a xs, o = .ref a ∧ xs.length ≤ lineL ∧ (σ a = some (.list xs) ∨ ∃ ns, σ a = some (.frz ns) ∧ xs = ns.map MV.int) ∧ cutL lo hi xs fun ys => newP (.list ys) σ Q
noncomputable def putI (k : Int) (v : MV) : List (Int × MV) → List (Int × MV)
  | [] => [(k, v)]
  | (j, u) :: r => if j = k then (k, v) :: r else (j, u) :: putI k v r
noncomputable def putN (k : Nat) (v : MV) : List (Nat × MV) → List (Nat × MV)
  | [] => [(k, v)]
  | (j, u) :: r => if j = k then (k, v) :: r else (j, u) :: putN k v r
theorem putI_cons {k j : Int} {u v : MV} {r : List (Int × MV)} : putI k v ((j, u) :: r) = if j = k then (k, v) :: r else (j, u) :: putI k v r := rfl
theorem putN_cons {k j : Nat} {u v : MV} {r : List (Nat × MV)} : putN k v ((j, u) :: r) = if j = k then (k, v) :: r else (j, u) :: putN k v r := rfl
noncomputable def setItemP (o i v : MV) (σ : Hp) (K : Hp → Prop) : Prop := ∃ a, o = .ref a ∧
  ((∃ k xs, i = .int k ∧ σ a = some (.list xs) ∧ 0 ≤ k ∧ k ≤ 1000000 ∧ k < xs.length ∧ K (σ.put a (.list (xs.set k.toNat v)))) ∨
    (∃ k kvs, i = .int k ∧ σ a = some (.dI kvs) ∧ kvs.length ≤ 1000 ∧ K (σ.put a (.dI (putI k v kvs)))) ∨
    ∃ n kvs, i = .sym n ∧ σ a = some (.dS kvs) ∧ kvs.length ≤ 1000 ∧ K (σ.put a (.dS (putN n v kvs))))
noncomputable def attrP (T : Tab) (o : MV) (n : Nat) (σ : Hp) (Q : MV → Prop) : Prop :=
  ∃ a C fs v, o = .ref a ∧ fs.lookup n = some v ∧ Q v ∧ ((σ a = some (.inst C fs) ∧ T.okAttr C n = true) ∨ (σ a = some (.exc C fs) ∧ T.okExc C n = true))
noncomputable def setAttrP (T : Tab) (o : MV) (n : Nat) (v : MV) (σ : Hp) (K : Hp → Prop) : Prop :=
  ∃ a C fs, o = .ref a ∧ fs.length ≤ 900 ∧ ((σ a = some (.inst C fs) ∧ T.okAttr C n = true ∧ K (σ.put a (.inst C (putN n v fs)))) ∨
    (σ a = some (.exc C fs) ∧ T.okExc C n = true ∧ K (σ.put a (.exc C (putN n v fs)))))
noncomputable def listM (n : Nat) (K : Value → Prop) : Prop := (n = sAppend ∧ K (.builtin "list.append")) ∨ (n = sPop ∧ K (.builtin "list.pop")) ∨ (n = sReverse ∧ K (.builtin "list.reverse"))
noncomputable def methP (T : Tab) (o : MV) (n : Nat) (σ : Hp) (K : Value → List MV → Prop) : Prop :=
  (∃ C f, o = .con (.ref C) ∧ T.clsAttrs.lookup (C, n) = some f ∧ K (.ref f) []) ∨ ∃ a, o = .ref a ∧
    ((∃ C fs f, σ a = some (.inst C fs) ∧ fs.lookup n = none ∧ T.meths.lookup (C, n) = some f ∧ K (.ref f) [.ref a]) ∨
      (∃ xs, σ a = some (.list xs) ∧ listM n fun f => K f [.ref a]) ∨ ∃ kvs, σ a = some (.dI kvs) ∧ n = sGet ∧ K (.builtin "dict.get") [.ref a])
noncomputable def getI (k : Int) : List (Int × MV) → Option MV
  | [] => none
  | (j, u) :: r => if j = k then some u else getI k r
theorem getI_cons {k j : Int} {u : MV} {r : List (Int × MV)} : getI k ((j, u) :: r) = if j = k then some u else getI k r := rfl
noncomputable def srcP (k : SrcK) (v1 v2 : MV) (σ : Hp) (K : List MV → (Hp → Prop) → Prop) : Prop := match k with
  | .exp => match v1 with
    | .tup xs => K xs fun _ => True
    | .ref a => ∃ xs, σ a = some (.list xs) ∧ K xs fun σ' => σ' a = some (.list xs)
    | _ => False
  | .range => match v1 with
    | .int n => (-(2 ^ 62) ≤ n ∧ n < 2 ^ 62) ∧ K ((List.range n.toNat).map fun (i : Nat) => MV.int (i : Int)) fun _ => True
    | _ => False
noncomputable def setMany (loc : Loc) : List Nat → List MV → Loc
  | i :: is, x :: xs => setMany (loc.set i (some x)) is xs
  | _, _ => loc
theorem manyP_inv : ∀ {is : List Nat} {loc : Loc} {xs : List MV} {K : Loc → Prop}, manyP loc is xs K → (∀ i ∈ is, i < loc.length) ∧ xs.length = is.length ∧ K (setMany loc is xs)
  | [], loc, [], K, q => ⟨fun _ h => (by cases h), rfl, q⟩
  | i :: is, loc, x :: xs, K, q => by
    obtain ⟨a, b⟩ := setP_inv (loc := loc) (i := i) (v := x) q
    obtain ⟨c, d, e⟩ := manyP_inv b
    refine ⟨fun j hj => ?_, congrArg (· + 1) d, e⟩
    rcases List.mem_cons.mp hj with rfl | hj
    · exact a
    · exact Nat.lt_of_lt_of_eq (c j hj) List.length_set
  | [], _, _ :: _, _, q => False.elim q
  | _ :: _, _, [], _, q => False.elim q
noncomputable def bindP (ti : List Nat) (one : Bool) (x : MV) (loc : Loc) (K : Loc → Prop) : Prop :=
  (∀ i ∈ ti, i < loc.length) ∧ match one with
  | true => match ti with
    | [i] => K (loc.set i (some x))
    | _ => False
  | false => match x with
    | .tup xs => xs.length = ti.length ∧ K (setMany loc ti xs)
    | _ => False
noncomputable abbrev CSpec := Nat → Value → List MV → Hp → (MV → Hp → Prop) → (MV → Hp → Prop) → Prop
section
variable (T : Tab) (CS : CSpec) (r : Nat)
mutual
noncomputable def ewp : ME → Loc → Hp → (MV → Hp → Prop) → (MV → Hp → Prop) → Prop
  | .none, _, σ, Q, _ => Q .none σ
  | .bool b, _, σ, Q, _ => Q (.bool b) σ
  | .int i, _, σ, Q, _ => Q (.int i) σ
  | .sym n, _, σ, Q, _ => Q (.sym n) σ
  | .loc i, loc, σ, Q, _ => locP loc[i]? fun v => Q v σ
  | .con v, _, σ, Q, _ => Q (.con v) σ
  | .gint i, _, σ, Q, _ => Q (.int i) σ
  | .attr e n, loc, σ, Q, E => ewp e loc σ (fun o σ1 => attrP T o n σ1 fun v => Q v σ1) E
  | .item e i, loc, σ, Q, E => ewp e loc σ (fun o σ1 => ewp i loc σ1 (fun j σ2 => itemP o j σ2 Q) E) E
  | .slice e lo hi, loc, σ, Q, E => ewp e loc σ (fun o σ1 => ewp lo loc σ1 (fun l σ2 => ewp hi loc σ2 (fun h σ3 => sliceP o l h σ3 Q) E) E) E
  | .bin op a b, loc, σ, Q, E => ewp a loc σ (fun va σ1 => ewp b loc σ1 (fun vb σ2 => binP op va vb σ2 Q) E) E
  | .not e, loc, σ, Q, E => ewp e loc σ (fun v σ1 => truthP v fun b => Q (.bool !b) σ1) E
  | .neg e, loc, σ, Q, E => ewp e loc σ (fun v σ1 => match v with | .int i => Q (.int (-i)) σ1 | _ => False) E
  | .and es, loc, σ, Q, E => boolwp true es loc σ Q E
  | .or es, loc, σ, Q, E => boolwp false es loc σ Q E
  | .cmp op a b, loc, σ, Q, E => ewp a loc σ (fun va σ1 => ewp b loc σ1 (fun vb σ2 => cmpP op va vb σ2 fun c => Q (.bool c) σ2) E) E
  | .ite c a b, loc, σ, Q, E => twp c loc σ (fun t σ1 => if t then ewp a loc σ1 Q E else ewp b loc σ1 Q E) E
  | .tup es, loc, σ, Q, E => ewps es loc σ (fun vs σ1 => Q (.tup vs) σ1) E
  | .list es, loc, σ, Q, E => ewps es loc σ (fun vs σ1 => newP (.list vs) σ1 Q) E
  | .dI, _, σ, Q, _ => newP (.dI []) σ Q
  | .dS, _, σ, Q, _ => newP (.dS []) σ Q
  | .call f args, loc, σ, Q, E => ewp f loc σ (fun fv σ1 => match fv with | .con v => ewps args loc σ1 (fun vs σ2 => CS r v vs σ2 Q E) E | _ => False) E
  | .meth o n args, loc, σ, Q, E => ewp o loc σ (fun ov σ1 => methP T ov n σ1 fun f first => ewps args loc σ1 (fun vs σ2 => CS r f (first ++ vs) σ2 Q E) E) E
  | .comp elt ti one k e1 e2 conds, loc, σ, Q, E => r ≠ 0 ∧ ewp e1 loc σ (fun v1 σ1 => ewp e2 loc σ1 (fun v2 σ2 => srcP k v1 v2 σ2 fun xs st =>
      ∃ I : List MV → List MV → Hp → Prop, I xs [] σ2 ∧ (∀ rest acc σ', I rest acc σ' → st σ' ∧ acc.length ≤ lineL) ∧
        (∀ x rest acc σ', I (x :: rest) acc σ' → bindP ti one x loc fun loc' => condwp conds loc' σ' (fun t σ3 => if t then ewp elt loc' σ3 (fun y σ4 => I rest (acc ++ [y]) σ4) (fun _ _ => False) else I rest acc σ3)) ∧
        ∀ acc σ', I [] acc σ' → newP (.list acc) σ' Q) E) E
noncomputable def ewps : List ME → Loc → Hp → (List MV → Hp → Prop) → (MV → Hp → Prop) → Prop
  | [], _, σ, Q, _ => Q [] σ
  | e :: es, loc, σ, Q, E => ewp e loc σ (fun v σ1 => ewps es loc σ1 (fun vs σ2 => Q (v :: vs) σ2) E) E
noncomputable def boolwp : Bool → List ME → Loc → Hp → (MV → Hp → Prop) → (MV → Hp → Prop) → Prop
  | _, [], _, _, _, _ => False
  | isAnd, e :: es, loc, σ, Q, E => match es with
    | [] => ewp e loc σ Q E
    | _ :: _ => ewp e loc σ (fun v σ1 => truthP v fun b => if b == isAnd then boolwp isAnd es loc σ1 Q E else Q v σ1) E
noncomputable def twp : ME → Loc → Hp → (Bool → Hp → Prop) → (MV → Hp → Prop) → Prop
  | .not e, loc, σ, Q, E => twp e loc σ (fun b σ1 => Q (!b) σ1) E
  | .and es, loc, σ, Q, E => alltwp true es loc σ Q E
  | .or es, loc, σ, Q, E => alltwp false es loc σ Q E
  | .ite c a b, loc, σ, Q, E => twp c loc σ (fun t σ1 => if t then twp a loc σ1 Q E else twp b loc σ1 Q E) E
  | .cmp op a b, loc, σ, Q, E => ewp a loc σ (fun va σ1 => ewp b loc σ1 (fun vb σ2 => cmpP op va vb σ2 fun c => Q c σ2) E) E
  | .bool b, _, σ, Q, _ => Q b σ
  | .loc i, loc, σ, Q, _ => locP loc[i]? fun v => truthP v fun b => Q b σ
  | .attr e n, loc, σ, Q, E => ewp e loc σ (fun o σ1 => attrP T o n σ1 fun v => truthP v fun b => Q b σ1) E
  | .item e i, loc, σ, Q, E => ewp e loc σ (fun o σ1 => ewp i loc σ1 (fun j σ2 => itemP o j σ2 fun v σ3 => truthP v fun b => Q b σ3) E) E
  | .bin op a b, loc, σ, Q, E => ewp a loc σ (fun va σ1 => ewp b loc σ1 (fun vb σ2 => binP op va vb σ2 fun v σ3 => truthP v fun b => Q b σ3) E) E
  | .call f args, loc, σ, Q, E => ewp f loc σ (fun fv σ1 => match fv with | .con v => ewps args loc σ1 (fun vs σ2 => CS r v vs σ2 (fun v σ3 => truthP v fun b => Q b σ3) E) E | _ => False) E
  | .meth o n args, loc, σ, Q, E => ewp o loc σ (fun ov σ1 => methP T ov n σ1 fun f first => ewps args loc σ1 (fun vs σ2 => CS r f (first ++ vs) σ2 (fun v σ3 => truthP v fun b => Q b σ3) E) E) E
  | _, _, _, _, _ => False
noncomputable def alltwp : Bool → List ME → Loc → Hp → (Bool → Hp → Prop) → (MV → Hp → Prop) → Prop
  | isAnd, [], _, σ, Q, _ => Q isAnd σ
  | isAnd, e :: es, loc, σ, Q, E => twp e loc σ (fun b σ1 => if b == isAnd then alltwp isAnd es loc σ1 Q E else Q b σ1) E
noncomputable def condwp : List ME → Loc → Hp → (Bool → Hp → Prop) → Prop
  | [], _, σ, Q => Q true σ
  | c :: cs, loc, σ, Q => cs = [] ∧ twp c loc σ Q (fun _ _ => False)
end
noncomputable def asgP (t : MT) (v : MV) (loc : Loc) (σ : Hp) (K : Loc → Hp → Prop) (E : MV → Hp → Prop) : Prop := match t with
  | .nm i => setP loc i v fun l => K l σ
  | .attr e n => ewp T CS r e loc σ (fun o σ1 => setAttrP T o n v σ1 fun σ2 => K loc σ2) E
  | .item e i => ewp T CS r e loc σ (fun o σ1 => ewp T CS r i loc σ1 (fun j σ2 => setItemP o j v σ2 fun σ3 => K loc σ3) E) E
  | .tup is => r ≠ 0 ∧ match v with
    | .tup xs => manyP loc is xs fun l => K l σ
    | _ => False
noncomputable def augP (t : MT) (op : Operator) (e : ME) (loc : Loc) (σ : Hp) (K : Loc → Hp → Prop) (E : MV → Hp → Prop) : Prop := match t with
  | .nm i => locP loc[i]? fun old => ewp T CS r e loc σ (fun v σ1 => (match old, v with | .int _, .int _ => True | _, _ => False) ∧ binP op old v σ1 fun new σ2 => setP loc i new fun l => K l σ2) E
  | .attr o n => ewp T CS r o loc σ (fun ov σ1 => attrP T ov n σ1 fun old => ewp T CS r e loc σ1 (fun v σ2 => (match old, v with | .int _, .int _ => True | _, _ => False) ∧ binP op old v σ2 fun new σ3 => setAttrP T ov n new σ3 fun σ4 => K loc σ4) E) E
  | .item o i => ewp T CS r o loc σ (fun ov σ1 => ewp T CS r i loc σ1 (fun iv σ2 => itemP ov iv σ2 fun old σ3 => ewp T CS r e loc σ3 (fun v σ4 => (match old, v with | .int _, .int _ => True | _, _ => False) ∧ binP op old v σ4 fun new σ5 => setItemP ov iv new σ5 fun σ6 => K loc σ6) E) E) E
  | .tup _ => False
noncomputable def subO (C : Addr) (m : MV) : Option Bool := match m with
  | .con v => match v with
    | .ref D => T.subs.lookup (C, D)
    | _ => none
  | _ => none
noncomputable def orO (a b : Option Bool) : Bool := match a with
  | some x => match b with
    | some y => x || y
    | none => false
  | none => false
theorem orO_inv {a b : Option Bool} (h : orO a b = true) : ∃ x y, a = some x ∧ b = some y ∧ (x || y) = true := by
  cases a with
  | none => exact (Bool.false_ne_true h).elim
  | some x => cases b with
    | none => exact (Bool.false_ne_true h).elim
    | some y => exact ⟨x, y, rfl, rfl, h⟩
noncomputable def excHit (tv : MV) (C : Addr) : Bool := match tv with
  | .con v => subO T C (.con v) == some true
  | .tup xs => match xs with
    | [] => false
    | a :: r => match r with
      | [] => false
      | b :: q => q.isEmpty && orO (subO T C a) (subO T C b)
  | _ => false
end
section
variable (T : Tab) (CS : CSpec)
mutual
noncomputable def swp : Nat → MS → Loc → Hp → (Out → Loc → Hp → Prop) → (MV → Loc → Hp → Prop) → Prop
  | r, .expr e, loc, σ, Q, E => ewp T CS r e loc σ (fun _ σ1 => Q .next loc σ1) (fun x σ1 => E x loc σ1)
  | _, .cont, loc, σ, Q, _ => Q .cont loc σ
  | r, .ret e, loc, σ, Q, E => ewp T CS r e loc σ (fun v σ1 => Q (.ret v) loc σ1) (fun x σ1 => E x loc σ1)
  | r, .asg t e, loc, σ, Q, E => ewp T CS r e loc σ (fun v σ1 => asgP T CS r t v loc σ1 (fun loc1 σ2 => Q .next loc1 σ2) (fun x σ2 => E x loc σ2)) (fun x σ1 => E x loc σ1)
  | r, .aug t op e, loc, σ, Q, E => augP T CS r t op e loc σ (fun loc1 σ2 => Q .next loc1 σ2) (fun x σ2 => E x loc σ2)
  | r, .ite c a b, loc, σ, Q, E => twp T CS r c loc σ (fun t σ1 => if t then swps r a loc σ1 Q E else swps r b loc σ1 Q E) (fun x σ1 => E x loc σ1)
  | r, .whl c b, loc, σ, Q, E => ∃ I : Nat → Loc → Hp → Prop, (∃ n, I n loc σ) ∧ ∀ n loc σ, I n loc σ →
      twp T CS r c loc σ (fun t σ1 => if t then swps r b loc σ1 (fun o loc2 σ2 => match o with
        | .next => ∃ m, m < n ∧ I m loc2 σ2
        | .cont => ∃ m, m < n ∧ I m loc2 σ2
        | .brk => Q .next loc2 σ2
        | .ret v => Q (.ret v) loc2 σ2) E else Q .next loc σ1) (fun x σ1 => E x loc σ1)
  | r, .for t k e1 e2 b, loc, σ, Q, E => r ≠ 0 ∧ ewp T CS r e1 loc σ (fun v1 σ1 => ewp T CS r e2 loc σ1 (fun v2 σ2 => srcP k v1 v2 σ2 fun xs st =>
      ∃ I : List MV → Loc → Hp → Prop, I xs loc σ2 ∧ (∀ rest loc' σ', I rest loc' σ' → st σ') ∧
        (∀ x rest loc' σ', I (x :: rest) loc' σ' → asgP T CS r t x loc' σ' (fun loc3 σ3 => swps r b loc3 σ3 (fun o loc4 σ4 => match o with
          | .next => I rest loc4 σ4
          | .cont => I rest loc4 σ4
          | .brk => Q .next loc4 σ4
          | .ret v => Q (.ret v) loc4 σ4) E) (fun _ _ => False)) ∧
        ∀ loc' σ', I [] loc' σ' → Q .next loc' σ') (fun x σ1 => E x loc σ1)) (fun x σ1 => E x loc σ1)
  | r, .rse e, loc, σ, _, E => r ≠ 0 ∧ ewp T CS r e loc σ (fun v σ1 => ∃ a C fs, v = .ref a ∧ σ1 a = some (.exc C fs) ∧ T.subs.lookup (C, C) = some true ∧ E v loc σ1) (fun x σ1 => E x loc σ1)
  | r, .tryF b f, loc, σ, Q, E => swps r b loc σ (fun o loc1 σ1 => swps r f loc1 σ1 (fun o' loc2 σ2 => match o' with | .next => Q o loc2 σ2 | _ => False) (fun _ _ _ => False))
      (fun x loc1 σ1 => swps 0 f loc1 σ1 (fun o' loc2 σ2 => match o' with | .next => (∃ a C fs, x = .ref a ∧ σ2 a = some (.exc C fs)) ∧ E x loc2 σ2 | _ => False) (fun _ _ _ => False))
  | r, .tryX b ty i h, loc, σ, Q, E => swps r b loc σ Q
      (fun x loc1 σ1 => ewp T CS 0 ty loc1 σ1 (fun tv σ2 => ∃ a C fs, x = .ref a ∧ σ2 a = some (.exc C fs) ∧ excHit T tv C = true ∧ i < loc1.length ∧
        swps 0 h (loc1.set i (some x)) σ2 (fun o loc2 σ3 => Q o (loc2.set i none) σ3) (fun _ _ _ => False)) (fun _ _ => False))
noncomputable def swps : Nat → List MS → Loc → Hp → (Out → Loc → Hp → Prop) → (MV → Loc → Hp → Prop) → Prop
  | _, [], loc, σ, Q, _ => Q .next loc σ
  | r, s :: rest, loc, σ, Q, E => swp r s loc σ (fun o loc1 σ1 => match o with
    | .next => swps r rest loc1 σ1 Q E
    | o => Q o loc1 σ1) E
end
end
end Mine
end
section
open PySem PySem.W PyProof.Rows
set_option maxRecDepth 20000
namespace Mine
noncomputable def tupObj (ys : List Value) (n : Nat) : Obj := { cls := .type "tuple", data := .seq ys.toArray n }
section
variable (sy : List Str) (h : Heap)
mutual
noncomputable def VRel : MV → Value → Prop
  | .none, v => v = .none
  | .bool b, v => v = .bool b
  | .int i, v => ∃ t, v = .int i t
  | .sym n, v => ∃ x t, sy[n]? = some x ∧ v = .str x t
  | .txt x, v => ∃ t, v = .str x t
  | .tup xs, v => ∃ a ys n, v = .ref a ∧ h.get? a = some (tupObj ys n) ∧ VRels xs ys
  | .ref a, v => v = .ref a
  | .con c, v => v = c ∧ handedIn c = true
noncomputable def VRels : List MV → List Value → Prop
  | [], ys => ys = []
  | x :: xs, ys => ∃ y r, ys = y :: r ∧ VRel x y ∧ VRels xs r
end
end
noncomputable def TK (h h' : Heap) : Prop := ∀ a ys n, h.get? a = some (tupObj ys n) → h'.get? a = some (tupObj ys n)
theorem TK.refl (h : Heap) : TK h h := fun _ _ _ e => e
theorem TK.trans {h1 h2 h3 : Heap} (x : TK h1 h2) (y : TK h2 h3) : TK h1 h3 := fun a ys n e => y a ys n (x a ys n e)
mutual
theorem VRel.tk {sy : List Str} {h h' : Heap} (k : TK h h') : ∀ {m : MV} {v : Value}, VRel sy h m v → VRel sy h' m v
  | .none, _, r => r
  | .bool _, _, r => r
  | .int _, _, r => r
  | .sym _, _, r => r
  | .txt _, _, r => r
  | .ref _, _, r => r
  | .con _, _, r => r
  | .tup xs, _, r => by
    obtain ⟨a, ys, n, e, g, q⟩ := r
    exact ⟨a, ys, n, e, k _ _ _ g, VRels.tk k q⟩
theorem VRels.tk {sy : List Str} {h h' : Heap} (k : TK h h') : ∀ {ms : List MV} {vs : List Value}, VRels sy h ms vs → VRels sy h' ms vs
  | [], _, r => r
  | _ :: _, _, r => by
    obtain ⟨y, r', e, p, q⟩ := r
    exact ⟨y, r', e, VRel.tk k p, VRels.tk k q⟩
end
section
variable {sy : List Str} {h : Heap}
theorem VRels.nil : VRels sy h [] [] := rfl
theorem VRels.cons {m : MV} {v : Value} {ms : List MV} {vs : List Value} (p : VRel sy h m v) (q : VRels sy h ms vs) : VRels sy h (m :: ms) (v :: vs) := ⟨v, vs, rfl, p, q⟩
theorem VRels.cons_inv {m : MV} {ms : List MV} {vs : List Value} (r : VRels sy h (m :: ms) vs) : ∃ v r', vs = v :: r' ∧ VRel sy h m v ∧ VRels sy h ms r' := r
theorem VRels.nil_inv {vs : List Value} (r : VRels sy h [] vs) : vs = [] := r
theorem VRel.none_inv {v : Value} (r : VRel sy h .none v) : v = .none := r
theorem VRel.bool_inv {b : Bool} {v : Value} (r : VRel sy h (.bool b) v) : v = .bool b := r
theorem VRel.int_inv {i : Int} {v : Value} (r : VRel sy h (.int i) v) : ∃ t, v = .int i t := r
theorem VRel.sym_inv {n : Nat} {v : Value} (r : VRel sy h (.sym n) v) : ∃ x t, sy[n]? = some x ∧ v = .str x t := r
theorem VRel.txt_inv {x : Str} {v : Value} (r : VRel sy h (.txt x) v) : ∃ t, v = .str x t := r
theorem VRel.tup_inv {xs : List MV} {v : Value} (r : VRel sy h (.tup xs) v) : ∃ a ys n, v = .ref a ∧ h.get? a = some (tupObj ys n) ∧ VRels sy h xs ys := r
theorem VRel.ref_inv {a : Addr} {v : Value} (r : VRel sy h (.ref a) v) : v = .ref a := r
theorem VRel.con_inv {c : Value} {v : Value} (r : VRel sy h (.con c) v) : v = c ∧ handedIn c = true := r
theorem VRel.mk_none : VRel sy h .none .none := rfl
theorem VRel.mk_bool (b : Bool) : VRel sy h (.bool b) (.bool b) := rfl
theorem VRel.mk_int (i : Int) (t : Tok) : VRel sy h (.int i) (.int i t) := ⟨t, rfl⟩
theorem VRel.mk_sym {n : Nat} {x : Str} (t : Tok) (e : sy[n]? = some x) : VRel sy h (.sym n) (.str x t) := ⟨x, t, e, rfl⟩
theorem VRel.mk_txt (x : Str) (t : Tok) : VRel sy h (.txt x) (.str x t) := ⟨t, rfl⟩
theorem VRel.mk_ref (a : Addr) : VRel sy h (.ref a) (.ref a) := rfl
theorem VRel.mk_con {c : Value} (e : handedIn c = true) : VRel sy h (.con c) c := ⟨rfl, e⟩
theorem VRel.mk_tup {xs : List MV} {a : Addr} {ys : List Value} {n : Nat} (g : h.get? a = some (tupObj ys n)) (r : VRels sy h xs ys) : VRel sy h (.tup xs) (.ref a) := ⟨a, ys, n, rfl, g, r⟩
theorem VRels.length : ∀ {ms : List MV} {vs : List Value}, VRels sy h ms vs → vs.length = ms.length
  | [], _, r => by rw [r.nil_inv]; rfl
  | _ :: _, _, r => by
    obtain ⟨_, _, rfl, _, q⟩ := r.cons_inv
    rw [List.length_cons, List.length_cons, q.length]
theorem VRels.append : ∀ {ms ms' : List MV} {vs vs' : List Value}, VRels sy h ms vs → VRels sy h ms' vs' → VRels sy h (ms ++ ms') (vs ++ vs')
  | [], _, _, _, r, q => by rw [r.nil_inv]; exact q
  | _ :: _, _, _, _, r, q => by
    obtain ⟨_, _, rfl, p, r'⟩ := r.cons_inv
    exact .cons p (r'.append q)
theorem VRels.get : ∀ {ms : List MV} {vs : List Value} {k : Nat} {m : MV}, VRels sy h ms vs → ms[k]? = some m → ∃ v, vs[k]? = some v ∧ VRel sy h m v
  | [], _, _, _, _, e => by simp at e
  | m :: ms, _, 0, _, r, e => by
    obtain ⟨v, _, rfl, p, _⟩ := r.cons_inv
    simp only [List.getElem?_cons_zero, Option.some.injEq] at e
    subst e
    exact ⟨v, rfl, p⟩
  | m :: ms, _, k + 1, _, r, e => by
    obtain ⟨_, r', rfl, _, q⟩ := r.cons_inv
    simp only [List.getElem?_cons_succ] at e ⊢
    exact q.get e
theorem VRels.set : ∀ {ms : List MV} {vs : List Value} {m : MV} {v : Value} (k : Nat), VRels sy h ms vs → VRel sy h m v → VRels sy h (ms.set k m) (vs.set k v)
  | [], _, _, _, _, r, _ => by rw [r.nil_inv]; exact .nil
  | _ :: _, _, _, _, 0, r, p => by
    obtain ⟨_, _, rfl, _, q⟩ := r.cons_inv
    exact .cons p q
  | _ :: _, _, _, _, k + 1, r, p => by
    obtain ⟨_, _, rfl, p', q⟩ := r.cons_inv
    exact .cons p' (q.set k p)
theorem VRels.take : ∀ {ms : List MV} {vs : List Value} (k : Nat), VRels sy h ms vs → VRels sy h (ms.take k) (vs.take k)
  | _, _, 0, _ => by simpa using VRels.nil
  | [], _, k + 1, r => by rw [r.nil_inv]; exact .nil
  | _ :: _, _, k + 1, r => by
    obtain ⟨_, _, rfl, p', q⟩ := r.cons_inv
    exact .cons p' (q.take k)
theorem VRels.drop : ∀ {ms : List MV} {vs : List Value} (k : Nat), VRels sy h ms vs → VRels sy h (ms.drop k) (vs.drop k)
  | _, _, 0, r => r
  | [], _, k + 1, r => by rw [r.nil_inv]; exact .nil
  | _ :: _, _, k + 1, r => by
    obtain ⟨_, _, rfl, _, q⟩ := r.cons_inv
    exact q.drop k
theorem VRels.reverse : ∀ {ms : List MV} {vs : List Value}, VRels sy h ms vs → VRels sy h ms.reverse vs.reverse
  | [], _, r => by rw [r.nil_inv]; exact .nil
  | _ :: _, _, r => by
    obtain ⟨_, _, rfl, p, q⟩ := r.cons_inv
    rw [List.reverse_cons, List.reverse_cons]
    exact q.reverse.append (.cons p .nil)
theorem VRels.replicate {ms : List MV} {vs : List Value} (r : VRels sy h ms vs) : ∀ k : Nat, VRels sy h (List.replicate k ms).flatten (List.replicate k vs).flatten
  | 0 => .nil
  | k + 1 => by
    rw [List.replicate_succ, List.replicate_succ, List.flatten_cons, List.flatten_cons]
    exact r.append (r.replicate k)
theorem VRels.snoc_inv : ∀ {ms : List MV} {vs : List Value} {m : MV}, VRels sy h (ms ++ [m]) vs → ∃ vs' v, vs = vs' ++ [v] ∧ VRels sy h ms vs' ∧ VRel sy h m v
  | [], _, _, r => by
    obtain ⟨v, r', rfl, p, q⟩ := r.cons_inv
    rw [q.nil_inv]
    exact ⟨[], v, rfl, .nil, p⟩
  | _ :: _, _, _, r => by
    obtain ⟨v, r', rfl, p, q⟩ := r.cons_inv
    obtain ⟨vs', u, rfl, q', p'⟩ := q.snoc_inv
    exact ⟨v :: vs', u, rfl, .cons p q', p'⟩
end
noncomputable def callOk (K : Frag) (v : Value) : Bool := keepIn K v || match v with
  | .builtin _ => true
  | .type _ => true
  | _ => false
structure Cx (T : Tab) where
  prog : Program
  w : World
  K : Frag
  base : Heap
  p : Program
  loose : List Str
  mg : Str → Option Value
  mb : Str → Option Value
  os : OsState
  g : Array GenState
  d : Drawn
  hK : K.In base
  hT : TopRead p loose mg mb base
  nodup : T.sym.Nodup
  short : ∀ x ∈ T.sym, x.length ≤ 1000 ∧ PyData.strOk x = true
  s0 : T.sym[0]? = some (Str.ofString "append")
  s1 : T.sym[1]? = some (Str.ofString "pop")
  s2 : T.sym[2]? = some (Str.ofString "reverse")
  s3 : T.sym[3]? = some (Str.ofString "get")
  subs : ∀ C D b, T.subs.lookup (C, D) = some b → exmOne K (.ref C) (.ref D) = some b
  plain : ∀ C n, T.okAttr C n = true → ∃ x, T.sym[n]? = some x ∧ plainGet K C x = true ∧ hasDictIn K C = true ∧ (∃ q, findIn K (.ref C) x = some q ∧ noGet K q = true) ∧
    findIn K (.ref C) "__setattr__" = some (some (.builtin "object.__setattr__")) ∧ takerIn K C x = some none ∧ plainOver K C = true
  meths : ∀ C n f, T.meths.lookup (C, n) = some f → ∃ x, T.sym[n]? = some x ∧ plainGet K C x = true ∧ findIn K (.ref C) x = some (some (.ref f)) ∧ isFn K (.ref f) = true ∧ keepIn K (.ref f) = true
  clsAttrs : ∀ C n f, T.clsAttrs.lookup (C, n) = some f → ∃ x, T.sym[n]? = some x ∧ specialIn K (.ref C) "__getattribute__" = some (some (.builtin "type.__getattribute__")) ∧ readsIn K C (.type "type") = true ∧
    findCls K (.ref C) (.type "type") x = some (.val (.ref f)) ∧ keepIn K (.ref f) = true
  excs : ∀ C n, T.okExc C n = true → ∃ x cd, T.sym[n]? = some x ∧ clsIn K C = some cd ∧ cd.hasDict = true ∧ mroIn K C (.type "object") = some true ∧ (∀ self, refuseLoop self "__setattr__" cd.mro = pure ()) ∧
    findIn K (.ref C) "__setattr__" = some (some (.builtin "object.__setattr__")) ∧ takerIn K C x = some none ∧ findIn K (.ref C) "__getattribute__" = some (some (.builtin "BaseException.__getattribute__")) ∧
    findIn K (.ref C) x = some none ∧ subIn K (.ref C) (.type "BaseException") = some true ∧ ∃ q, findIn K (.ref C) "__getattr__" = some q
section
variable {T : Tab} (cx : Cx T)
noncomputable def Cx.mk' (h : Heap) (t : Nat) : Shared := ⟨h, cx.g, cx.d, t, cx.os⟩
noncomputable def FRel (h : Heap) : List (Nat × MV) → List DictEntry → Prop
  | [], es => es = []
  | (n, m) :: fs, es => ∃ e r x t, es = e :: r ∧ T.sym[n]? = some x ∧ e.key = .str x t ∧ e.hash = PyData.keyHash cx.w.params x ∧ VRel T.sym h m e.val ∧ FRel h fs r
noncomputable def KvI (sy : List Str) (h : Heap) : List (Int × MV) → List (Int × Value) → Prop
  | [], l => l = []
  | (k, m) :: r, l => ∃ v l', l = (k, v) :: l' ∧ VRel sy h m v ∧ KvI sy h r l'
noncomputable def KvS (sy : List Str) (h : Heap) : List (Nat × MV) → List (Str × Value) → Prop
  | [], l => l = []
  | (n, m) :: r, l => ∃ x v l', sy[n]? = some x ∧ l = (x, v) :: l' ∧ VRel sy h m v ∧ KvS sy h r l'
noncomputable def TbRel (own : Addr → Option Addr) (h : Heap) (a : Addr) (vs : Array Value) : Prop :=
  (vs[1]? = some .none ∧ ∀ t o, own t = some a → h.get? t = some o → o.cls ≠ .type "traceback") ∨
    ∃ t ot ts, vs[1]? = some (.ref t) ∧ own t = some a ∧ t ≠ a ∧ h.get? t = some ot ∧ ot.data = .fields ts ∧ 3 < ts.size ∧ ot.cls = .type "traceback"
noncomputable def ORel (own : Addr → Option Addr) (h : Heap) (a : Addr) : MObj → Prop
  | .list xs => ∃ ys n, h.get? a = some (listOf ys.toArray n) ∧ VRels T.sym h xs ys
  | .dI kvs => (a == sysModules) = false ∧ ∃ l, h.DictOf (intKind cx.prog cx.w) a l ∧ KvI T.sym h kvs l
  | .dS kvs => ∃ l, h.DictOf (strKind cx.prog cx.w) a l ∧ KvS T.sym h kvs l
  | .inst C fs => ∃ dx es n, h.get? a = some (instObj C dx) ∧ own dx = some a ∧ dx ≠ a ∧ h.get? dx = some (dictOf es n) ∧ FRel cx h fs es
  | .exc C fs => ∃ od vs sl, h.get? a = some ⟨.ref C, od, .fields vs, sl⟩ ∧ TbRel own h a vs ∧
      ((od = none ∧ fs = []) ∨ ∃ dx es n, od = some dx ∧ own dx = some a ∧ dx ≠ a ∧ h.get? dx = some (dictOf es n) ∧ FRel cx h fs es)
  | .frz ns => ∃ vs, cx.base.IsList a vs.toArray ∧ IntsAre vs ns
noncomputable def frameAddr (fs : List Env) (a : Addr) : Prop := ∃ e ∈ fs, e.frame = some a
structure Inv (fs : List Env) (own : Addr → Option Addr) (σ : Hp) (h : Heap) : Prop where
  base : ∀ b o, cx.base.get? b = some o → h.get? b = some o
  ownd : ∀ a x, own a = some x → cx.base.get? a = none ∧ ∃ o, h.get? a = some o ∧ o.cls ≠ .type "tuple"
  ownr : ∀ a x, own a = some x → own x = some x
  objs' : ∀ a o, σ a = some o → (own a = some a ∨ o.isFrz = true) ∧ ORel cx own h a o
  frames : ∀ e ∈ fs, ∃ L o es n, e.frame = some L ∧ cx.base.get? L = none ∧ own L = none ∧ h.get? L = some o ∧ o.data = .dict es n ∧ e.scope.kind ≠ .module
structure Keep (fs : List Env) (own : Addr → Option Addr) (X : Addr → Prop) (h h' : Heap) : Prop where
  live : ∀ a o, h.get? a = some o → ∃ o', h'.get? a = some o'
  same : ∀ a o, h.get? a = some o → own a = none → ¬ X a → h'.get? a = some o ∨ (frameAddr fs a ∧ ∃ sl, h'.get? a = some { o with slots := sl })
  kls : ∀ a o x, own a = some x → ¬ X a → h.get? a = some o → ∃ o', h'.get? a = some o' ∧ o'.cls = o.cls
structure OwnExt (own own' : Addr → Option Addr) (h : Heap) : Prop where
  up : ∀ a x, own a = some x → own' a = some x
  new : ∀ a x, own' a = some x → own a = some x ∨ (own a = none ∧ h.get? a = none)
noncomputable def noX : Addr → Prop := fun _ => False
theorem OwnExt.refl (own : Addr → Option Addr) (h : Heap) : OwnExt own own h := ⟨fun _ _ e => e, fun _ _ e => .inl e⟩
theorem Keep.refl (fs : List Env) (own : Addr → Option Addr) (X : Addr → Prop) (h : Heap) : Keep fs own X h h := ⟨fun _ o e => ⟨o, e⟩, fun _ _ e _ _ => .inl e, fun _ o _ _ _ e => ⟨o, e, rfl⟩⟩
theorem OwnExt.old {own own' : Addr → Option Addr} {h : Heap} (x : OwnExt own own' h) {a : Addr} {o : Obj} (e : h.get? a = some o) (n : own a = none) : own' a = none := by
  cases q : own' a with
  | none => rfl
  | some y =>
    rcases x.2 a y q with z | ⟨_, z⟩
    · rw [n] at z; cases z
    · rw [e] at z; cases z
theorem OwnExt.trans {fs : List Env} {own own1 own2 : Addr → Option Addr} {h h1 : Heap} {X : Addr → Prop}
    (x : OwnExt own own1 h) (k : Keep fs own X h h1) (y : OwnExt own1 own2 h1) : OwnExt own own2 h := by
  refine ⟨fun a z e => y.1 a z (x.1 a z e), fun a z e => ?_⟩
  rcases y.2 a z e with q | ⟨q1, q2⟩
  · exact x.2 a z q
  · refine .inr ⟨?_, ?_⟩
    · cases q : own a with
      | none => rfl
      | some u => rw [x.1 a u q] at q1; cases q1
    · cases q : h.get? a with
      | none => rfl
      | some o =>
        obtain ⟨o', z'⟩ := k.live a o q
        rw [z'] at q2; cases q2
theorem Keep.trans {fs : List Env} {own own1 : Addr → Option Addr} {h h1 h2 : Heap} {X : Addr → Prop} (x : OwnExt own own1 h) (k : Keep fs own X h h1) (l : Keep fs own1 X h1 h2) : Keep fs own X h h2 := by
  refine ⟨fun a o e => ?_, fun a o e n hx => ?_, fun a o y e nx g => ?_⟩
  · obtain ⟨o', e'⟩ := k.live a o e
    exact l.live a o' e'
  have n1 := x.old e n
  rcases k.same a o e n hx with z | ⟨fa, sl, z⟩
  · exact l.same a o z n1 hx
  · rcases l.same a _ z n1 hx with z' | ⟨_, sl', z'⟩
    · exact .inr ⟨fa, sl, z'⟩
    · exact .inr ⟨fa, sl', z'⟩
  · obtain ⟨o1, g1, c1⟩ := k.kls a o y e nx g
    obtain ⟨o2, g2, c2⟩ := l.kls a o1 y (x.up a y e) nx g1
    exact ⟨o2, g2, c2.trans c1⟩
theorem Keep.mono {fs : List Env} {own : Addr → Option Addr} {h h' : Heap} {X Y : Addr → Prop} (k : Keep fs own X h h') (s : ∀ a, X a → Y a) : Keep fs own Y h h' :=
  ⟨k.live, fun a o e n hy => k.same a o e n fun hx => hy (s a hx), fun a o y e ny g => k.kls a o y e (fun hx => ny (s a hx)) g⟩
theorem Keep.data {fs : List Env} {own : Addr → Option Addr} {h h' : Heap} {X : Addr → Prop} (k : Keep fs own X h h') {a : Addr} {o : Obj} (e : h.get? a = some o) (n : own a = none) (hx : ¬ X a) :
    ∃ o', h'.get? a = some o' ∧ o'.data = o.data ∧ o'.cls = o.cls := by
  rcases k.same a o e n hx with z | ⟨_, sl, z⟩
  · exact ⟨o, z, rfl, rfl⟩
  · exact ⟨_, z, rfl, rfl⟩
theorem Keep.ns {fs : List Env} {own : Addr → Option Addr} {h h' : Heap} {X : Addr → Prop} (k : Keep fs own X h h') {a : Addr} {m : Str → Option Value} (e : h.Ns a m) (n : own a = none) (hx : ¬ X a) : h'.Ns a m := by
  obtain ⟨o, es, ep, ho, hd, hk, hf⟩ := e
  obtain ⟨o', e', d', _⟩ := k.data ho n hx
  exact ⟨o', es, ep, e', d'.trans hd, hk, hf⟩
section
variable {cx : Cx T} {fs : List Env} {own own' : Addr → Option Addr} {σ σ' : Hp} {h h' : Heap} {X : Addr → Prop}
theorem Inv.objs (I : Inv cx fs own σ h) (a : Addr) (o : MObj) (e : σ a = some o) (nf : o.isFrz = false := by rfl) : own a = some a ∧ ORel cx own h a o := by
  obtain ⟨x, y⟩ := I.objs' a o e
  rcases x with x | x
  · exact ⟨x, y⟩
  · rw [nf] at x; cases x
theorem Inv.frz (I : Inv cx fs own σ h) {a : Addr} {ns : List Int} (e : σ a = some (.frz ns)) : ∃ vs, h.IsList a vs.toArray ∧ IntsAre vs ns := by
  obtain ⟨_, vs, ⟨o, g, c⟩, r⟩ := I.objs' a _ e
  exact ⟨vs, ⟨o, I.base _ _ g, c⟩, r⟩
theorem Inv.notOwn (I : Inv cx fs own σ h) {a : Addr} {ys : List Value} {n : Nat} (e : h.get? a = some (tupObj ys n)) : own a = none := by
  cases q : own a with
  | none => rfl
  | some x =>
    obtain ⟨_, o', e', n⟩ := I.ownd a x q
    rw [e] at e'; cases e'; exact absurd rfl n
theorem Inv.notFrame (I : Inv cx fs own σ h) {a : Addr} {ys : List Value} {n : Nat} (e : h.get? a = some (tupObj ys n)) : ¬ frameAddr fs a := by
  rintro ⟨ev, hm, hf⟩
  obtain ⟨L, o', es, n, f1, _, _, f4, f5, _⟩ := I.frames ev hm
  rw [hf] at f1; cases f1
  rw [e] at f4; cases f4; cases f5
theorem Inv.tk (I : Inv cx fs own σ h) (k : Keep fs own X h h') (hX : ∀ a ys n, X a → h.get? a ≠ some (tupObj ys n)) : TK h h' := by
  intro a ys n e
  rcases k.same a _ e (I.notOwn e) (fun x => hX a ys n x e) with z | ⟨z, _⟩
  · exact z
  · exact absurd z (I.notFrame e)
theorem Inv.tk0 (I : Inv cx fs own σ h) (k : Keep fs own noX h h') : TK h h' := I.tk k fun _ _ _ x => x.elim
theorem Inv.noOwner (I : Inv cx fs own σ h) {a : Addr} (e : h.get? a = none) (b : Addr) : own b ≠ some a := fun q => by
  obtain ⟨_, o, e', _⟩ := I.ownd a a (I.ownr b a q)
  rw [e] at e'; cases e'
theorem Inv.K (I : Inv cx fs own σ h) : cx.K.In h := cx.hK.keeps I.base
theorem Inv.top (I : Inv cx fs own σ h) : TopRead cx.p cx.loose cx.mg cx.mb h := cx.hT.keeps I.base
theorem Inv.fresh (I : Inv cx fs own σ h) {a : Addr} (e : h.get? a = none) : σ a = none ∧ own a = none := by
  have n : own a = none := by
    cases q : own a with
    | none => rfl
    | some x => obtain ⟨_, o, e', _⟩ := I.ownd a x q; rw [e] at e'; cases e'
  refine ⟨?_, n⟩
  cases q : σ a with
  | none => rfl
  | some o =>
    obtain ⟨x, y⟩ := I.objs' a o q
    rw [n] at x
    have x := x.resolve_left (by intro z; cases z)
    cases o with
    | frz ns =>
      obtain ⟨vs, ⟨o, g, _⟩, _⟩ := y
      rw [I.base _ _ g] at e; cases e
    | _ => exact (Bool.false_ne_true x).elim
end
section
variable {sy : List Str} {h h' : Heap}
theorem KvI.tk (k : TK h h') : ∀ {kvs : List (Int × MV)} {l : List (Int × Value)}, KvI sy h kvs l → KvI sy h' kvs l
  | [], _, r => r
  | _ :: _, _, r => by obtain ⟨v, l', e, p, q⟩ := r; exact ⟨v, l', e, p.tk k, KvI.tk k q⟩
theorem KvS.tk (k : TK h h') : ∀ {kvs : List (Nat × MV)} {l : List (Str × Value)}, KvS sy h kvs l → KvS sy h' kvs l
  | [], _, r => r
  | _ :: _, _, r => by obtain ⟨x, v, l', e0, e, p, q⟩ := r; exact ⟨x, v, l', e0, e, p.tk k, KvS.tk k q⟩
end
section
variable {cx : Cx T} {fs : List Env} {own own' : Addr → Option Addr} {σ σ' : Hp} {h h' : Heap} {X : Addr → Prop}
theorem FRel.tk (k : TK h h') : ∀ {l : List (Nat × MV)} {es : List DictEntry}, FRel cx h l es → FRel cx h' l es
  | [], _, r => r
  | _ :: _, _, r => by obtain ⟨e, r, x, t, e1, e2, e3, e4, p, q⟩ := r; exact ⟨e, r, x, t, e1, e2, e3, e4, p.tk k, FRel.tk k q⟩
theorem ORel.keep {a : Addr} (k : TK h h') (up : ∀ b x, own b = some x → own' b = some x) (dn : ∀ b, own' b = some a → own b = some a) (ex : ∀ b, own b = some a → ∃ o, h.get? b = some o) (hs : ∀ b o, own b = some a → h.get? b = some o → h'.get? b = some o) (ha : own a = some a) {mo : MObj} (r : ORel cx own h a mo) : ORel cx own' h' a mo := by
  cases mo with
  | list xs => obtain ⟨ys, n, e, r⟩ := r; exact ⟨ys, n, hs a _ ha e, r.tk k⟩
  | dI kvs => obtain ⟨ns, l, ⟨o, es, ep, e, r⟩, q⟩ := r; exact ⟨ns, l, ⟨o, es, ep, hs a _ ha e, r⟩, q.tk k⟩
  | dS kvs => obtain ⟨l, ⟨o, es, ep, e, r⟩, q⟩ := r; exact ⟨l, ⟨o, es, ep, hs a _ ha e, r⟩, q.tk k⟩
  | inst C fs' => obtain ⟨dx, es, n, e, od, ne, ed, r⟩ := r; exact ⟨dx, es, n, hs a _ ha e, up _ _ od, ne, hs dx _ od ed, r.tk k⟩
  | frz ns => exact r
  | exc C fs' =>
    obtain ⟨od, vs, sl, e, tb, r⟩ := r
    refine ⟨od, vs, sl, hs a _ ha e, ?_, ?_⟩
    · rcases tb with ⟨tb, tn⟩ | ⟨t, ot, ts, e1, e2, e3, e4, e5, e6⟩
      · refine .inl ⟨tb, fun t o q g => ?_⟩
        obtain ⟨o', g'⟩ := ex t (dn t q)
        have := hs t o' (dn t q) g'
        rw [g] at this; cases this
        exact tn t o (dn t q) g'
      · exact .inr ⟨t, ot, ts, e1, up _ _ e2, e3, hs t _ e2 e4, e5, e6⟩
    · rcases r with r | ⟨dx, es, n, e1, e2, e3, e4, r⟩
      · exact .inl r
      · exact .inr ⟨dx, es, n, e1, up _ _ e2, e3, hs dx _ e2 e4, r.tk k⟩
theorem Inv.objK (I : Inv cx fs own σ h) {a : Addr} {o : MObj} (e : σ a = some o) (k : TK h h') (up : ∀ b x, own b = some x → own' b = some x) (dn : ∀ b, own' b = some a → own b = some a) (hs : ∀ b o, own b = some a → h.get? b = some o → h'.get? b = some o) :
    (own' a = some a ∨ o.isFrz = true) ∧ ORel cx own' h' a o := by
  obtain ⟨x, y⟩ := I.objs' a o e
  cases f : o.isFrz with
  | true =>
    refine ⟨.inr rfl, ?_⟩
    cases o with
    | frz ns => exact y
    | _ => exact (Bool.false_ne_true f).elim
  | false =>
    rw [f] at x
    have x := x.resolve_right Bool.false_ne_true
    refine ⟨.inl (up _ _ x), y.keep k up dn (fun c e => ?_) hs x⟩
    obtain ⟨_, oc, g, _⟩ := I.ownd c a e
    exact ⟨oc, g⟩
theorem Inv.upd (I : Inv cx fs own σ h) {a : Addr} {mo : MObj} (x : OwnExt own own' h) (hnew : ∀ b y, own' b = some y → own b = some y ∨ y = a)
    (hk : ∀ b o, h.get? b = some o → own b ≠ some a → h'.get? b = some o)
    (ha : ∀ b, own' b = some a → cx.base.get? b = none ∧ ∃ o, h'.get? b = some o ∧ o.cls ≠ .type "tuple") (hc : ∀ b o, own b = some a → h.get? b = some o → ∃ o', h'.get? b = some o' ∧ o'.cls = o.cls) (hown : own' a = some a) (ho : TK h h' → ORel cx own' h' a mo) :
    Inv cx fs own' (σ.put a mo) h' ∧ Keep fs own noX h h' := by
  have hkeep : Keep fs own noX h h' := by
    refine ⟨fun b o e => ?_, fun b o e n _ => .inl (hk b o e (by rw [n]; intro q; cases q)), fun b o y e _ g => ?_⟩
    by_cases q : own b = some a
    · obtain ⟨_, o', e', _⟩ := ha b (x.up b a q)
      exact ⟨o', e'⟩
    · exact ⟨o, hk b o e q⟩
    · by_cases q : y = a
      · subst q; exact hc b o e g
      · exact ⟨o, hk b o g (by rw [e]; exact fun u => q (Option.some.inj u)), rfl⟩
  have tk := I.tk0 hkeep
  refine ⟨⟨fun b o e => ?_, fun b y e => ?_, fun b y e => ?_, fun b o e => ?_, fun ev hm => ?_⟩, hkeep⟩
  · refine hk b o (I.base b o e) fun q => ?_
    rw [(I.ownd b a q).1] at e; cases e
  · by_cases q : y = a
    · subst q; exact ha b e
    · rcases hnew b y e with z | z
      · obtain ⟨z1, o, z2, z3⟩ := I.ownd b y z
        exact ⟨z1, o, hk b o z2 (by rw [z]; exact fun u => q (Option.some.inj u)), z3⟩
      · exact absurd z q
  · rcases hnew b y e with z | z
    · exact x.up _ _ (I.ownr b y z)
    · rw [z]; exact hown
  · unfold Hp.put at e
    by_cases q : b = a
    · subst q
      rw [if_pos rfl] at e
      cases e
      exact ⟨.inl hown, ho tk⟩
    · rw [if_neg q] at e
      exact I.objK e tk x.up (fun c e => (hnew c b e).resolve_right q) fun c oc e1 e2 => hk c oc e2 (by rw [e1]; exact fun u => q (Option.some.inj u))
  · obtain ⟨L, o, es, n, f1, f2, f3, f4, f5, f7⟩ := I.frames ev hm
    have f3' := x.old f4 f3
    exact ⟨L, o, es, n, f1, f2, f3', hk L o f4 (by rw [f3]; intro u; cases u), f5, f7⟩
theorem Inv.store (I : Inv cx fs own σ h) {a : Addr} {mo mo' : MObj} (e : σ a = some mo) (hk : ∀ b o, h.get? b = some o → own b ≠ some a → h'.get? b = some o)
    (ha : ∀ b o, own b = some a → h.get? b = some o → ∃ o', h'.get? b = some o' ∧ o'.cls = o.cls) (ho : TK h h' → ORel cx own h' a mo') (nf : mo.isFrz = false := by rfl) : Inv cx fs own (σ.put a mo') h' ∧ Keep fs own noX h h' :=
  I.upd (.refl ..) (fun _ _ q => .inl q) hk (fun b q => ⟨(I.ownd b a q).1, let ⟨_, o, g, c⟩ := I.ownd b a q; let ⟨o', g', c'⟩ := ha b o q g; ⟨o', g', by rw [c']; exact c⟩⟩) ha (I.objs a mo e nf).1 ho
noncomputable def ownNew (own : Addr → Option Addr) (a : Addr) : Addr → Option Addr := fun b => if b = a then some a else own b
noncomputable def ownNew2 (own : Addr → Option Addr) (a d : Addr) : Addr → Option Addr := fun b => if b = a ∨ b = d then some a else own b
theorem Inv.alloc (I : Inv cx fs own σ h) {a : Addr} {mo : MObj} {o : Obj} (e : h.get? a = none) (hb : cx.base.get? a = none) (hk : ∀ b o, h.get? b = some o → h'.get? b = some o) (hn : h'.get? a = some o) (c : o.cls ≠ .type "tuple")
    (ho : TK h h' → ORel cx (ownNew own a) h' a mo) : Inv cx fs (ownNew own a) (σ.put a mo) h' ∧ Keep fs own noX h h' ∧ OwnExt own (ownNew own a) h := by
  obtain ⟨_, n⟩ := I.fresh e
  have x : OwnExt own (ownNew own a) h := by
    refine ⟨fun b y q => ?_, fun b y q => ?_⟩
    · unfold ownNew
      by_cases z : b = a
      · subst z; rw [n] at q; cases q
      · rw [if_neg z]; exact q
    · unfold ownNew at q
      by_cases z : b = a
      · subst z; exact .inr ⟨n, e⟩
      · rw [if_neg z] at q; exact .inl q
  have none_a : ∀ b, own b ≠ some a := I.noOwner e
  obtain ⟨I', k⟩ := I.upd (h' := h') (mo := mo) x (fun b y q => by
      unfold ownNew at q
      by_cases z : b = a
      · rw [if_pos z] at q; exact .inr (Option.some.inj q).symm
      · rw [if_neg z] at q; exact .inl q) (fun b o e _ => hk b o e) (fun b q => by
      unfold ownNew at q
      by_cases z : b = a
      · subst z; exact ⟨hb, o, hn, c⟩
      · rw [if_neg z] at q; exact absurd q (none_a b)) (fun b o q => absurd q (none_a b)) (by unfold ownNew; rw [if_pos rfl]) ho
  exact ⟨I', k, x⟩
end
end
end Mine
end
section
open PySem PySem.W PyProof.Rows
set_option maxRecDepth 20000
namespace Mine
structure ACtx (A : Around) (fs : List Env) (r : Nat) : Prop where
  hd : r ≠ 0 → A.handled = none
  depth : A.depth + 3 * r ≤ 900
  frames : A.frames = some fs
  units : A.units + 12 * r ≤ 9800
section
variable {T : Tab} (cx : Cx T)
inductive Pst {α : Type} (fs : List Env) (X : Addr → Prop) (own : Addr → Option Addr) (h : Heap) (P : α → Hp → Heap → Prop) (v : α) (s' : Shared) : Prop where
  | mk (h' : Heap) (t' : Nat) (own' : Addr → Option Addr) (σ' : Hp) (e : s' = cx.mk' h' t') (I : Inv cx fs own' σ' h') (x : OwnExt own own' h) (k : Keep fs own X h h') (p : P v σ' h')
inductive VQ (Q : MV → Hp → Prop) (v : Value) (σ : Hp) (h : Heap) : Prop where
  | mk (m : MV) (r : VRel T.sym h m v) (q : Q m σ)
inductive VsQ (Q : List MV → Hp → Prop) (v : List Value) (σ : Hp) (h : Heap) : Prop where
  | mk (m : List MV) (r : VRels T.sym h m v) (q : Q m σ)
noncomputable def UQ {α : Type} (Q : Hp → Prop) (_ : α) (σ : Hp) (_ : Heap) : Prop := Q σ
noncomputable def BQ (Q : Bool → Hp → Prop) (b : Bool) (σ : Hp) (_ : Heap) : Prop := Q b σ
inductive EQ (E : MV → Hp → Prop) (e : Value) (σ : Hp) (h : Heap) : Prop where
  | mk (a C : Addr) (fs : List (Nat × MV)) (ea : e = .ref a) (hs : σ a = some (.exc C fs)) (q : E (.ref a) σ)
noncomputable def CallSpec (r : Nat) (f : Value) (args : List MV) (σ : Hp) (Q E : MV → Hp → Prop) : Prop :=
  ∀ (A : Around) (fs : List Env) (own : Addr → Option Addr) (h : Heap) (t : Nat) (vs : List Value), ACtx A fs r → Inv cx fs own σ h → VRels T.sym h args vs →
    wpAny (model cx.prog cx.w) A (call f vs) (Pst cx fs noX own h (VQ (T := T) Q)) (Pst cx fs noX own h (EQ E)) (cx.mk' h t)
end
section
variable {T : Tab} {cx : Cx T} {α : Type} {fs : List Env} {X : Addr → Prop} {own own1 : Addr → Option Addr} {σ : Hp} {h h1 : Heap} {P : α → Hp → Heap → Prop} {v : α} {s' : Shared} {A : Around} {t : Nat}
theorem Pst.up (x : OwnExt own own1 h) (k : Keep fs own X h h1) (p : Pst cx fs X own1 h1 P v s') : Pst cx fs X own h P v s' := by
  obtain ⟨h', t', own', σ', e, I, x', k', q⟩ := p
  exact ⟨h', t', own', σ', e, I, x.trans k x', k.trans x k', q⟩
theorem Pst.wide {Y : Addr → Prop} (s : ∀ a, X a → Y a) (p : Pst cx fs X own h P v s') : Pst cx fs Y own h P v s' := by
  obtain ⟨h', t', own', σ', e, I, x', k', q⟩ := p
  exact ⟨h', t', own', σ', e, I, x', k'.mono s, q⟩
theorem Pst.imp {P' : α → Hp → Heap → Prop} (f : ∀ v σ h, P v σ h → P' v σ h) (p : Pst cx fs X own h P v s') : Pst cx fs X own h P' v s' := by
  obtain ⟨h', t', own', σ', e, I, x', k', q⟩ := p
  exact ⟨h', t', own', σ', e, I, x', k', f _ _ _ q⟩
theorem Pst.here (I : Inv cx fs own σ h) (q : P v σ h) : Pst cx fs X own h P v (cx.mk' h t) := ⟨h, t, own, σ, rfl, I, .refl .., .refl .., q⟩
theorem wpAny_seq {M : Model} {c : Sem α} {Q : α → Shared → Prop} {E E' : Value → Shared → Prop} {s : Shared} (w : wpAny M A c (Pst cx fs X own h P) E' s)
    (hE : ∀ e s, E' e s → E e s)
    (f : ∀ v own1 σ1 h1 t1, Inv cx fs own1 σ1 h1 → OwnExt own own1 h → Keep fs own X h h1 → P v σ1 h1 → Q v (cx.mk' h1 t1)) : wpAny M A c Q E s :=
  wpAny_mono w (fun v s' p => by
    obtain ⟨h', t', own', σ', e, I, x', k', q⟩ := p
    rw [e]; exact f v own' σ' h' t' I x' k' q) hE
end
section
variable {T : Tab} {cx : Cx T} {fs : List Env} {own : Addr → Option Addr} {σ : Hp} {h : Heap} {A : Around} {t : Nat} {E : Value → Shared → Prop} {Q : MV → Hp → Prop} {X : Addr → Prop}
theorem get?_size (h : Heap) : h.get? h.objs.size = none := Heap.get?_none_of_le (Nat.le_refl _)
theorem base_size (I : Inv cx fs own σ h) : cx.base.get? h.objs.size = none := by
  cases q : cx.base.get? h.objs.size with
  | none => rfl
  | some o =>
    have := I.base _ _ q
    rw [get?_size] at this; cases this
theorem listNe : (Value.type "list") ≠ .type "tuple" := by decide
theorem dictNe : (Value.type "dict") ≠ .type "tuple" := by decide
theorem refNe (C : Addr) : (Value.ref C) ≠ .type "tuple" := fun e => by cases e
theorem new_list (I : Inv cx fs own σ h) {xs : List MV} {ys : List Value} (r : VRels T.sym h xs ys) (q : newP (.list xs) σ Q) :
    Pst cx fs X own h (VQ (T := T) Q) (.ref h.objs.size) (cx.mk' (h.push (listOf ys.toArray 0)) t) := by
  have e := get?_size h
  have up : ∀ b o, h.get? b = some o → (h.push (listOf ys.toArray 0)).get? b = some o := fun b o => Heap.get?_push_of_some _
  obtain ⟨I', k, x⟩ := I.alloc (mo := .list xs) (h' := h.push (listOf ys.toArray 0)) e (base_size I) up (Heap.get?_push_size h rfl) listNe (fun tk => ⟨ys, 0, Heap.get?_push_size h rfl, r.tk tk⟩)
  exact ⟨_, t, _, _, rfl, I', x, k.mono fun _ z => z.elim, .ref h.objs.size, rfl, q _ (I.fresh e).1⟩
theorem Inv.push_any (I : Inv cx fs own σ h) (oo : Obj) : Inv cx fs own σ (h.push oo) ∧ Keep fs own noX h (h.push oo) := by
  have up : ∀ b o, h.get? b = some o → (h.push oo).get? b = some o := fun b o => Heap.get?_push_of_some _
  have k : Keep fs own noX h (h.push oo) := ⟨fun a o e => ⟨o, up a o e⟩, fun a o e _ _ => .inl (up a o e), fun a o _ _ _ e => ⟨o, up a o e, rfl⟩⟩
  have tk := I.tk0 k
  refine ⟨⟨fun b o e => up b o (I.base b o e), fun a x e => ?_, I.ownr, fun a o e => ?_, fun ev hm => ?_⟩, k⟩
  · obtain ⟨z1, o, z2, z3⟩ := I.ownd a x e
    exact ⟨z1, o, up a o z2, z3⟩
  · exact I.objK e tk (fun _ _ z => z) (fun _ z => z) fun b oo _ q => up b oo q
  · obtain ⟨L, o, es, n', f1, f2, f3, f4, f5, f7⟩ := I.frames ev hm
    exact ⟨L, o, es, n', f1, f2, f3, up L o f4, f5, f7⟩
theorem new_tup (I : Inv cx fs own σ h) {xs : List MV} {ys : List Value} (r : VRels T.sym h xs ys) (q : Q (.tup xs) σ) :
    Pst cx fs X own h (VQ (T := T) Q) (.ref h.objs.size) (cx.mk' (h.push (tupObj ys 0)) t) := by
  obtain ⟨I', k⟩ := I.push_any (tupObj ys 0)
  exact ⟨_, t, _, _, rfl, I', .refl .., k.mono fun _ z => z.elim, .tup xs, ⟨_, ys, 0, rfl, Heap.get?_push_size h rfl, r.tk (I.tk0 k)⟩, q⟩
theorem val_here (I : Inv cx fs own σ h) {m : MV} {v : Value} (r : VRel T.sym h m v) (q : Q m σ) : Pst cx fs X own h (VQ (T := T) Q) v (cx.mk' h t) := Pst.here I ⟨m, r, q⟩
theorem bits64 {i : Int} (e : i.natAbs < 2 ^ 64) : Builtin.Int.intBits i ≤ 64 := intBits_le_64 (by lia) (by lia)
theorem intP_rel {K : Int → Int → Prop} {ma mb : MV} {a b : Value} {G : Value → Value → Prop} (ra : VRel T.sym h ma a) (rb : VRel T.sym h mb b) (q : intP ma mb K) (f : ∀ i j t u, K i j → G (.int i t) (.int j u)) : G a b := by
  cases ma with
  | int i => cases mb with
    | int j =>
      obtain ⟨t, rfl⟩ := ra.int_inv
      obtain ⟨u, rfl⟩ := rb.int_inv
      exact f i j t u q
    | _ => exact False.elim q
  | _ => exact False.elim q
theorem add_tup (I : Inv cx fs own σ h) {xs ys : List MV} {a b : Value} (ra : VRel T.sym h (.tup xs) a) (rb : VRel T.sym h (.tup ys) b) (q : (xs ≠ [] ∧ ys ≠ [] ∧ xs.length + ys.length ≤ lineL) ∧ Q (.tup (xs ++ ys)) σ) :
    wpAny (model cx.prog cx.w) A (binaryOp .Add a b) (Pst cx fs X own h (VQ (T := T) Q)) E (cx.mk' h t) := by
  obtain ⟨l, us, n, rfl, g1, r1⟩ := ra.tup_inv
  obtain ⟨l2, us2, n2, rfl, g2, r2⟩ := rb.tup_inv
  have ea : us.toArray ++ us2.toArray = (us ++ us2).toArray := by simp
  have l1 := r1.length
  have l2 := r2.length
  refine PySem.P.add_tuple (items := us.toArray) (items2 := us2.toArray) g1 g2 (fun e => q.1.1 ?_) (fun e => q.1.2.1 ?_) ?_ ?_
  · rw [← List.length_eq_zero_iff, ← l1]; simpa using e
  · rw [← List.length_eq_zero_iff, ← l2]; simpa using e
  · have z := new_tup (cx := cx) (X := X) (t := t) I (r1.append r2) q.2
    rw [ea]; exact z
  · have := q.1.2.2; simp only [List.size_toArray, l1, l2]; unfold lineL at this; rw [sizeLine_eq]; lia
theorem add_ref (I : Inv cx fs own σ h) {l k : Addr} {a b : Value} (ra : VRel T.sym h (.ref l) a) (rb : VRel T.sym h (.ref k) b) (q : ∃ xs ys, σ l = some (.list xs) ∧ σ k = some (.list ys) ∧ xs.length + ys.length ≤ lineL ∧ newP (.list (xs ++ ys)) σ Q) :
    wpAny (model cx.prog cx.w) A (binaryOp .Add a b) (Pst cx fs X own h (VQ (T := T) Q)) E (cx.mk' h t) := by
  have ra := ra.ref_inv
  have rb := rb.ref_inv
  subst ra rb
  obtain ⟨xs, ys, e1, e2, hz, q⟩ := q
  obtain ⟨_, us, n, g1, r1⟩ := I.objs l _ e1
  obtain ⟨_, us2, n2, g2, r2⟩ := I.objs k _ e2
  have l1 := r1.length
  have l2 := r2.length
  have ea : us.toArray ++ us2.toArray = (us ++ us2).toArray := by simp
  refine PySem.P.add_list (items := us.toArray) (items2 := us2.toArray) g1 g2 ?_ ?_
  · have z := new_list (cx := cx) (X := X) (t := t) I (r1.append r2) q
    rw [ea]; exact z
  · simp only [List.size_toArray, l1, l2]; unfold lineL at hz; rw [sizeLine_eq]; lia
theorem mul_ref (I : Inv cx fs own σ h) {l : Addr} {n : Int} {a b : Value} (ra : VRel T.sym h (.ref l) a) (rb : VRel T.sym h (.int n) b) (q : ∃ xs, σ l = some (.list xs) ∧ 0 ≤ n ∧ n < 2 ^ 62 ∧ xs.length * n.toNat ≤ 256 ∧ newP (.list (List.replicate n.toNat xs).flatten) σ Q) :
    wpAny (model cx.prog cx.w) A (binaryOp .Mult a b) (Pst cx fs X own h (VQ (T := T) Q)) E (cx.mk' h t) := by
  obtain ⟨u, rfl⟩ := rb.int_inv
  have ra := ra.ref_inv
  subst ra
  obtain ⟨xs, e1, h0, hhi, hsz, q⟩ := q
  obtain ⟨_, vs, k, ho, r1⟩ := I.objs l _ e1
  have l1 := r1.length
  have hsz' : vs.length * n.toNat ≤ 256 := by rw [l1]; exact hsz
  have hszA : vs.toArray.size * n.toNat ≤ 256 := by simp only [List.size_toArray, l1]; exact hsz
  refine wpAny_binaryOp_repeat_ref (T := "list") (U := "int") (by decide) ⟨_, ho, rfl⟩ (fun s' => typeIs_int s' n u) noFill_list_mul F.fills_int_mul F.slot_int_rmul repeat_list F.slot_int_index.lookup
    (call_meets F.slot_int_rmul (typeIs_int _ n u) F.entry_int_rmul (F.args_int_rmul_2 _ _) (lm_int_rmul_list_any n u l vs.toArray k none #[])
      ⟨ho, rfl, ⟨_, ho, rfl⟩, call_meets F.slot_list_mul ⟨_, ho, rfl⟩ F.entry_list_mul (F.args_list_mul_2 _ _)
        (lm_list_mul_any l vs.toArray k none #[] n u (by simp [Builtin.List.listFitsIndex]; lia) (by lia) (by simp [Builtin.List.listTooLong, sizeLine]; lia))
        ⟨ho, ?_⟩⟩)
  rw [listMul_foldl_if]
  exact new_list (cx := cx) (X := X) (t := t) I (r1.replicate n.toNat) q
theorem add_str' (I : Inv cx fs own σ h) {n : Nat} {s : Str} {a b : Value} (ra : VRel T.sym h (.sym n) a) (rb : VRel T.sym h (.txt s) b) (q : s.length ≤ 1000 ∧ ∀ s', Q (.txt s') σ) :
    wpAny (model cx.prog cx.w) A (binaryOp .Add a b) (Pst cx fs X own h (VQ (T := T) Q)) E (cx.mk' h t) := by
  obtain ⟨x, u, e, rfl⟩ := ra.sym_inv
  obtain ⟨u2, rfl⟩ := rb.txt_inv
  refine PyProof.Rows.add_str (fun t' tk => val_here I (.mk_txt (x ++ s) _) (q.2 _)) ?_
  have := (cx.short x (List.mem_of_getElem? e)).1
  have := q.1
  rw [sizeLine_eq]; lia
theorem addP_el {a b : MV} {P : MV → MV → Prop} (q : addP a b σ Q) (h1 : ∀ i j, Q (.int (i + j)) σ → P (.int i) (.int j))
    (h2 : ∀ xs ys, (xs ≠ [] ∧ ys ≠ [] ∧ xs.length + ys.length ≤ lineL) ∧ Q (.tup (xs ++ ys)) σ → P (.tup xs) (.tup ys))
    (h3 : ∀ l k, (∃ xs ys, σ l = some (.list xs) ∧ σ k = some (.list ys) ∧ xs.length + ys.length ≤ lineL ∧ newP (.list (xs ++ ys)) σ Q) → P (.ref l) (.ref k))
    (h4 : ∀ n s, (s.length ≤ 1000 ∧ ∀ s', Q (.txt s') σ) → P (.sym n) (.txt s)) : P a b := by
  cases a with
  | int i => cases b with
    | int j => exact h1 i j q
    | _ => exact False.elim q
  | tup xs => cases b with
    | tup ys => exact h2 xs ys q
    | _ => exact False.elim q
  | ref l => cases b with
    | ref k => exact h3 l k q
    | _ => exact False.elim q
  | sym n => cases b with
    | txt s => exact h4 n s q
    | _ => exact False.elim q
  | _ => exact False.elim q
theorem mulP_el {a b : MV} {P : MV → MV → Prop} (q : mulP a b σ Q) (h1 : ∀ i j, (i.natAbs < 2 ^ 64 ∧ j.natAbs < 2 ^ 64) ∧ Q (.int (i * j)) σ → P (.int i) (.int j))
    (h2 : ∀ l n, (∃ xs, σ l = some (.list xs) ∧ 0 ≤ n ∧ n < 2 ^ 62 ∧ xs.length * n.toNat ≤ 256 ∧ newP (.list (List.replicate n.toNat xs).flatten) σ Q) → P (.ref l) (.int n)) : P a b := by
  cases a with
  | int i => cases b with
    | int j => exact h1 i j q
    | _ => exact False.elim q
  | ref l => cases b with
    | int j => exact h2 l j q
    | _ => exact False.elim q
  | _ => exact False.elim q
theorem pow_small {i j : Int} (q : i.natAbs < 2 ^ 64 ∧ 0 ≤ j ∧ j ≤ 1000000) : (Builtin.Int.intBits i : Int) * j ≤ 2 ^ 27 := by
  have := bits64 q.1
  have h2 := q.2.2
  have h1 := q.2.1
  calc (Builtin.Int.intBits i : Int) * j ≤ 64 * 1000000 := Int.mul_le_mul (by lia) h2 h1 (by decide)
    _ ≤ 2 ^ 27 := by decide
theorem bin_sound (I : Inv cx fs own σ h) {op : Operator} {ma mb : MV} {a b : Value} (ra : VRel T.sym h ma a) (rb : VRel T.sym h mb b) (q : binP op ma mb σ Q) :
    wpAny (model cx.prog cx.w) A (binaryOp op a b) (Pst cx fs X own h (VQ (T := T) Q)) E (cx.mk' h t) := by
  have vi : ∀ (i : Int) (t' t'' : Nat), Q (.int i) σ → Pst cx fs X own h (VQ (T := T) Q) (Value.int i t') (cx.mk' h t'') := fun i t' t'' z => val_here I (.mk_int i _) z
  cases op with
  | Add =>
    refine addP_el (P := fun ma mb => VRel T.sym h ma a → VRel T.sym h mb b → wpAny (model cx.prog cx.w) A (binaryOp .Add a b) (Pst cx fs X own h (VQ (T := T) Q)) E (cx.mk' h t)) q (fun i j q ra rb => ?_) (fun xs ys q ra rb => add_tup I ra rb q) (fun l k q ra rb => add_ref I ra rb q) (fun n s q ra rb => add_str' I ra rb q) ra rb
    obtain ⟨_, rfl⟩ := ra.int_inv; obtain ⟨_, rfl⟩ := rb.int_inv; exact PyProof.Rows.add_int (vi _ _ _ q)
  | Mult =>
    refine mulP_el (P := fun ma mb => VRel T.sym h ma a → VRel T.sym h mb b → wpAny (model cx.prog cx.w) A (binaryOp .Mult a b) (Pst cx fs X own h (VQ (T := T) Q)) E (cx.mk' h t)) q (fun i j q ra rb => ?_) (fun l n q ra rb => mul_ref I ra rb q) ra rb
    obtain ⟨_, rfl⟩ := ra.int_inv; obtain ⟨_, rfl⟩ := rb.int_inv; exact PyProof.Rows.mul_int (vi _ _ _ q.2) (.of_left (bits64 q.1.1))
  | Sub => exact intP_rel (G := fun a b => wpAny _ A (binaryOp .Sub a b) _ E _) ra rb q fun i j t u q => PyProof.Rows.sub_int (vi _ _ _ q)
  | FloorDiv => exact intP_rel (G := fun a b => wpAny _ A (binaryOp .FloorDiv a b) _ E _) ra rb q fun i j t u q => PyProof.Rows.floordiv_int q.1.1 (vi _ _ _ q.2) (.inl (PyProof.noPylong_small q.1.2))
  | Mod => exact intP_rel (G := fun a b => wpAny _ A (binaryOp .Mod a b) _ E _) ra rb q fun i j t u q => PyProof.Rows.mod_int q.1 (vi _ _ _ q.2)
  | Pow => exact intP_rel (G := fun a b => wpAny _ A (binaryOp .Pow a b) _ E _) ra rb q fun i j t u q => PyProof.Rows.pow_int q.1.2.1 (pow_small q.1) (vi _ _ _ q.2)
  | LShift => exact intP_rel (G := fun a b => wpAny _ A (binaryOp .LShift a b) _ E _) ra rb q fun i j t u q => PyProof.Rows.lshift_int_small q.1.2.1 q.1.2.2 q.1.1 (vi _ _ _ q.2)
  | RShift => exact intP_rel (G := fun a b => wpAny _ A (binaryOp .RShift a b) _ E _) ra rb q fun i j t u q => PyProof.Rows.rshift_int q.1 (vi _ _ _ q.2)
  | BitAnd => exact intP_rel (G := fun a b => wpAny _ A (binaryOp .BitAnd a b) _ E _) ra rb q fun i j t u q => PyProof.Rows.and_int (vi _ _ _ q)
  | BitOr => exact intP_rel (G := fun a b => wpAny _ A (binaryOp .BitOr a b) _ E _) ra rb q fun i j t u q => PyProof.Rows.or_int (vi _ _ _ q)
  | BitXor => exact intP_rel (G := fun a b => wpAny _ A (binaryOp .BitXor a b) _ E _) ra rb q fun i j t u q => PyProof.Rows.xor_int (vi _ _ _ q)
  | _ => exact False.elim q
end
section
variable {T : Tab}
mutual
noncomputable def toPy (sy : List Str) : MV → PyData
  | .none => .none
  | .bool b => .bool b
  | .int i => .int i
  | .sym n => .str (sy[n]?.getD Str.empty)
  | .tup xs => .tuple (toPys sy xs)
  | _ => .none
noncomputable def toPys (sy : List Str) : List MV → List PyData
  | [] => []
  | x :: r => toPy sy x :: toPys sy r
end
mutual
theorem toPy_all {sy : List Str} {h : Heap} (hs : ∀ x ∈ sy, PyData.strOk x = true) : ∀ {n : Nat} {m : MV} {v : Value}, VRel sy h m v → m.isData n = true → (∃ as, Reads h v (toPy sy m) as) ∧ (toPy sy m).canLay0 = true ∧ (toPy sy m).depth ≤ n
  | n, .none, v, r, _ => r.none_inv ▸ ⟨⟨_, Reads.none⟩, rfl, Nat.zero_le n⟩
  | n, .bool b, v, r, _ => r.bool_inv ▸ ⟨⟨_, Reads.bool b⟩, rfl, Nat.zero_le n⟩
  | n, .int i, v, r, _ => let ⟨t, e⟩ := r.int_inv; e ▸ ⟨⟨_, Reads.int i t⟩, rfl, Nat.zero_le n⟩
  | n, .sym k, v, r, _ => by
    obtain ⟨x, t, e, rfl⟩ := r.sym_inv
    have e' : toPy sy (.sym k) = .str x := congrArg (fun o : Option Str => PyData.str (o.getD Str.empty)) e
    rw [e']; exact ⟨⟨_, Reads.str x t⟩, hs x (List.mem_of_getElem? e), Nat.zero_le n⟩
  | n + 1, .tup xs, v, r, d => by
    obtain ⟨a, ys, k, rfl, g, q⟩ := r.tup_inv
    obtain ⟨⟨as, q⟩, q2, q3⟩ := toPys_all hs (n := n) q d
    exact ⟨⟨as, reads_tuple_at g rfl rfl q⟩, q2, Nat.succ_le_succ q3⟩
  | 0, .tup _, _, _, d => (Bool.false_ne_true d).elim
  | _, .txt _, _, _, d => (Bool.false_ne_true d).elim
  | _, .ref _, _, _, d => (Bool.false_ne_true d).elim
  | _, .con _, _, _, d => (Bool.false_ne_true d).elim
theorem toPys_all {sy : List Str} {h : Heap} (hs : ∀ x ∈ sy, PyData.strOk x = true) : ∀ {n : Nat} {ms : List MV} {vs : List Value}, VRels sy h ms vs → isDatasN n ms = true → (∃ as, ReadsAll h vs (toPys sy ms) as) ∧ PyData.canLayAll0 (toPys sy ms) = true ∧ PyData.depthAll (toPys sy ms) ≤ n
  | n, [], vs, r, _ => r.nil_inv ▸ ⟨⟨_, ReadsAll.nil⟩, rfl, Nat.zero_le n⟩
  | n, m :: ms, vs, r, d => by
    obtain ⟨v, vs', rfl, p, q⟩ := r.cons_inv
    obtain ⟨d1, d2⟩ := Bool.and_eq_true_iff.mp d
    obtain ⟨⟨as, p⟩, p2, p3⟩ := toPy_all hs p d1
    obtain ⟨⟨bs, q⟩, q2, q3⟩ := toPys_all hs q d2
    exact ⟨⟨_, ReadsAll.cons p q⟩, Bool.and_eq_true_iff.mpr ⟨p2, q2⟩, Nat.max_le.mpr ⟨p3, q3⟩⟩
end
theorem sym_eqv {sy : List Str} (nd : sy.Nodup) {k j : Nat} {x y : Str} (e : sy[k]? = some x) (e' : sy[j]? = some y) : (x == y) = decide (k = j) := by
  by_cases q : k = j
  · subst q; rw [e] at e'; cases e'; rw [beq_self_eq_true, decide_eq_true rfl]
  · rw [decide_eq_false q]
    refine beq_eq_false_iff_ne.mpr fun z => ?_
    subst z
    exact q ((List.getElem?_inj (List.getElem?_eq_some_iff.mp e).1 nd).mp (e.trans e'.symm))
mutual
theorem toPy_eqv {sy : List Str} {h h' : Heap} (nd : sy.Nodup) : ∀ {n n' : Nat} {m m' : MV} {v v' : Value}, VRel sy h m v → m.isData n = true → VRel sy h' m' v' → m'.isData n' = true → PyData.eqv (toPy sy m) (toPy sy m') = m.beq m'
  | n, n', .none, m', _, _, _, _, r', d' => by cases m' <;> first | rfl | exact (Bool.false_ne_true d').elim
  | n, n', .bool b, m', _, _, _, _, r', d' => by cases m' <;> first | rfl | exact (Bool.false_ne_true d').elim
  | n, n', .int i, m', _, _, _, _, r', d' => by cases m' <;> first | rfl | exact (Bool.false_ne_true d').elim
  | n, n', .sym k, m', _, _, r, _, r', d' => by
    obtain ⟨x, t, e, rfl⟩ := r.sym_inv
    cases m' with
    | sym j =>
      obtain ⟨y, u, e', rfl⟩ := r'.sym_inv
      show PyData.eqv (.str (sy[k]?.getD Str.empty)) (.str (sy[j]?.getD Str.empty)) = decide (k = j)
      rw [e, e']; exact sym_eqv nd e e'
    | _ => first | rfl | exact (Bool.false_ne_true d').elim
  | n + 1, n', .tup xs, m', v, v', r, d, r', d' => by
    obtain ⟨a, ys, k, rfl, g, q⟩ := r.tup_inv
    cases m' with
    | tup zs =>
      cases n' with
      | zero => exact (Bool.false_ne_true d').elim
      | succ n' =>
        obtain ⟨a', ys', k', rfl, g', q'⟩ := r'.tup_inv
        exact toPys_eqv nd (n := n) (n' := n') q d q' d'
    | _ => first | rfl | exact (Bool.false_ne_true d').elim
  | 0, _, .tup _, _, _, _, _, d, _, _ => (Bool.false_ne_true d).elim
  | _, _, .txt _, _, _, _, _, d, _, _ => (Bool.false_ne_true d).elim
  | _, _, .ref _, _, _, _, _, d, _, _ => (Bool.false_ne_true d).elim
  | _, _, .con _, _, _, _, _, d, _, _ => (Bool.false_ne_true d).elim
theorem toPys_eqv {sy : List Str} {h h' : Heap} (nd : sy.Nodup) : ∀ {n n' : Nat} {ms ms' : List MV} {vs vs' : List Value}, VRels sy h ms vs → isDatasN n ms = true → VRels sy h' ms' vs' → isDatasN n' ms' = true → PyData.eqvAll (toPys sy ms) (toPys sy ms') = beqs ms ms'
  | _, _, [], [], _, _, _, _, _, _ => rfl
  | _, _, [], _ :: _, _, _, _, _, _, _ => rfl
  | _, _, _ :: _, [], _, _, _, _, _, _ => rfl
  | n, n', m :: ms, m' :: ms', _, _, r, d, r', d' => by
    obtain ⟨v, vs, rfl, p, q⟩ := r.cons_inv
    obtain ⟨v', vs', rfl, p', q'⟩ := r'.cons_inv
    obtain ⟨d1, d2⟩ := Bool.and_eq_true_iff.mp d
    obtain ⟨d1', d2'⟩ := Bool.and_eq_true_iff.mp d'
    exact congr (congrArg and (toPy_eqv nd p d1 p' d1')) (toPys_eqv nd q d2 q' d2')
end
theorem any_beq {sy : List Str} {h : Heap} (nd : sy.Nodup) {a : MV} {v : Value} (ra : VRel sy h a v) (da : a.isData 8 = true) : ∀ {xs : List MV} {ys : List Value}, VRels sy h xs ys → isDatas xs = true →
    ((toPys sy xs).any fun y => PyData.eqv y (toPy sy a)) = xs.any fun x => x.beq a
  | [], _, _, _ => rfl
  | x :: xs, _, r, d => by
    obtain ⟨v', vs, rfl, p, q⟩ := r.cons_inv
    obtain ⟨d1, d2⟩ := Bool.and_eq_true_iff.mp d
    exact congr (congrArg or (toPy_eqv nd p d1 ra da)) (any_beq nd ra da q d2)
end
section
variable {T : Tab} {cx : Cx T} {fs : List Env} {own : Addr → Option Addr} {σ : Hp} {h : Heap} {A : Around} {t : Nat} {E : Value → Shared → Prop}
theorem cx.strs (cx : Cx T) : ∀ x ∈ T.sym, PyData.strOk x = true := fun x hx => (cx.short x hx).2
theorem list_reads {xs : List MV} {a : Addr} {ys : List Value} {n : Nat} (cx : Cx T) (g : h.get? a = some (listOf ys.toArray n)) (r : VRels T.sym h xs ys) (d : isDatas xs = true) :
    (∃ as, Reads h (.ref a) (.list (toPys T.sym xs)) as) ∧ PyData.canLayAll0 (toPys T.sym xs) = true ∧ PyData.depthAll (toPys T.sym xs) ≤ 8 := by
  obtain ⟨⟨as, q⟩, q2, q3⟩ := toPys_all (fun x hx => (cx.short x hx).2) r d
  exact ⟨⟨_, reads_list_at g rfl rfl (by simpa using q)⟩, q2, q3⟩
noncomputable def DatE (h : Heap) (a b : Value) (K : Bool → Prop) : Prop :=
  ∃ da db as bs, Reads h a da as ∧ Reads h b db bs ∧ da.canLay0 = true ∧ db.canLay0 = true ∧ (da.depth ≤ 9 ∧ db.depth ≤ 9) ∧ K (PyData.eqv da db)
theorem dataP_rel {ma mb : MV} {a b : Value} {Q : Bool → Prop} (cx : Cx T) (ra : VRel T.sym h ma a) (rb : VRel T.sym h mb b) (d : ma.isData 8 = true ∧ mb.isData 8 = true) (q : Q (ma.beq mb)) : DatE h a b Q := by
  obtain ⟨⟨as, r1⟩, c1, d1⟩ := toPy_all (fun x hx => (cx.short x hx).2) ra d.1
  obtain ⟨⟨bs, r2⟩, c2, d2⟩ := toPy_all (fun x hx => (cx.short x hx).2) rb d.2
  exact ⟨_, _, as, bs, r1, r2, c1, c2, ⟨Nat.le_succ_of_le d1, Nat.le_succ_of_le d2⟩, (toPy_eqv cx.nodup ra d.1 rb d.2).symm ▸ q⟩
theorem eqP_ref {l k : Addr} {a b : Value} {Q : Bool → Prop} (I : Inv cx fs own σ h) (ra : VRel T.sym h (.ref l) a) (rb : VRel T.sym h (.ref k) b)
    (q : ∃ xs ys, σ l = some (.list xs) ∧ σ k = some (.list ys) ∧ (isDatas xs = true ∧ isDatas ys = true) ∧ Q (beqs xs ys)) : DatE h a b Q := by
  have ra := ra.ref_inv; have rb := rb.ref_inv; subst ra rb
  obtain ⟨xs, ys, e1, e2, d, q⟩ := q
  obtain ⟨_, us, n, g1, r1⟩ := I.objs l _ e1
  obtain ⟨_, us2, n2, g2, r2⟩ := I.objs k _ e2
  obtain ⟨⟨as, z1⟩, c1, d1⟩ := list_reads cx g1 r1 d.1
  obtain ⟨⟨bs, z2⟩, c2, d2⟩ := list_reads cx g2 r2 d.2
  have e : PyData.eqv (.list (toPys T.sym xs)) (.list (toPys T.sym ys)) = beqs xs ys := by simp only [PyData.eqv]; exact toPys_eqv cx.nodup r1 d.1 r2 d.2
  exact ⟨_, _, as, bs, z1, z2, by simpa [PyData.canLay0] using c1, by simpa [PyData.canLay0] using c2, ⟨by simp only [PyData.depth]; lia, by simp only [PyData.depth]; lia⟩, e.symm ▸ q⟩
theorem eqP_el {a b : MV} {Q : Bool → Prop} {P : MV → MV → Prop} (q : eqP a b σ Q) (f : ∀ a b, (a.isData 8 = true ∧ b.isData 8 = true) → Q (a.beq b) → P a b)
    (g : ∀ l k, (∃ xs ys, σ l = some (.list xs) ∧ σ k = some (.list ys) ∧ (isDatas xs = true ∧ isDatas ys = true) ∧ Q (beqs xs ys)) → P (.ref l) (.ref k)) : P a b := by
  cases a with
  | ref l => cases b with
    | ref k => exact g l k q
    | _ => exact False.elim q
  | int i => cases b with
    | int j => exact f (.int i) (.int j) ⟨rfl, rfl⟩ q
    | _ => exact f _ _ q.1 q.2
  | sym i => cases b with
    | sym j => exact f (.sym i) (.sym j) ⟨rfl, rfl⟩ q
    | _ => exact f _ _ q.1 q.2
  | _ => exact f _ _ q.1 q.2
theorem eqP_rel {ma mb : MV} {a b : Value} {Q : Bool → Prop} (I : Inv cx fs own σ h) (ra : VRel T.sym h ma a) (rb : VRel T.sym h mb b) (q : eqP ma mb σ Q) : DatE h a b Q :=
  eqP_el (P := fun ma mb => VRel T.sym h ma a → VRel T.sym h mb b → DatE h a b Q) q (fun _ _ d q ra rb => dataP_rel cx ra rb d q) (fun _ _ q ra rb => eqP_ref I ra rb q) ra rb
theorem nonP_rel {ma mb : MV} {a b : Value} {Q : Bool → Prop} (ra : VRel T.sym h ma a) (rb : VRel T.sym h mb b) (q : nonP ma mb Q) : b = .none ∧ ((a = .none ∧ Q true) ∨ ((PySem.plainIs a .none = true ∧ a ≠ .none) ∧ Q false)) := by
  cases mb with
  | none =>
    refine ⟨rb.none_inv, ?_⟩
    cases ma with
    | none => exact .inl ⟨ra.none_inv, q⟩
    | int i => obtain ⟨_, rfl⟩ := ra.int_inv; exact .inr ⟨⟨rfl, Value.noConfusion⟩, q⟩
    | bool i => rw [ra.bool_inv]; exact .inr ⟨⟨rfl, Value.noConfusion⟩, q⟩
    | sym i => obtain ⟨_, _, _, rfl⟩ := ra.sym_inv; exact .inr ⟨⟨rfl, Value.noConfusion⟩, q⟩
    | tup i => obtain ⟨_, _, _, rfl, _⟩ := ra.tup_inv; exact .inr ⟨⟨rfl, Value.noConfusion⟩, q⟩
    | ref i => rw [ra.ref_inv]; exact .inr ⟨⟨rfl, Value.noConfusion⟩, q⟩
    | _ => exact False.elim q
  | _ => exact False.elim q
theorem inP_rel {ma mb : MV} {a b : Value} {Q : Bool → Prop} (I : Inv cx fs own σ h) (ra : VRel T.sym h ma a) (rb : VRel T.sym h mb b) (q : inP ma mb σ Q) :
    ∃ da ds as bs, Reads h a da as ∧ da.canLay0 = true ∧ PyData.canLayAll0 ds = true ∧ (da.depth ≤ 8 ∧ PyData.depthAll ds ≤ 8) ∧ (Reads h b (.tuple ds) bs ∨ Reads h b (.list ds) bs) ∧ Q (ds.any fun y => PyData.eqv y da) := by
  cases mb with
  | tup xs =>
    obtain ⟨a', ys, n, rfl, g, r⟩ := rb.tup_inv
    obtain ⟨⟨as, r1⟩, c1, d1⟩ := toPy_all (fun x hx => (cx.short x hx).2) ra q.1.1
    obtain ⟨⟨bs, q1⟩, q2, q3⟩ := toPys_all (fun x hx => (cx.short x hx).2) r q.1.2
    exact ⟨_, _, as, _, r1, c1, q2, ⟨d1, q3⟩, .inl (reads_tuple_at (h := h) g rfl rfl q1), (any_beq cx.nodup ra q.1.1 r q.1.2).symm ▸ q.2⟩
  | ref l =>
    have rb := rb.ref_inv; subst rb
    obtain ⟨xs, e1, d, q⟩ := q
    obtain ⟨_, us, n, g, r⟩ := I.objs l _ e1
    obtain ⟨⟨as, r1⟩, c1, d1⟩ := toPy_all (fun x hx => (cx.short x hx).2) ra d.1
    obtain ⟨⟨bs, z⟩, q2, q3⟩ := list_reads cx g r d.2
    exact ⟨_, _, as, _, r1, c1, q2, ⟨d1, q3⟩, .inr z, (any_beq cx.nodup ra d.1 r d.2).symm ▸ q⟩
  | _ => exact False.elim q
theorem cmp_sound (I : Inv cx fs own σ h) (hu : A.units + 64 < cLine) {op : CmpOp} {ma mb : MV} {a b : Value} {Q : Bool → Prop} {R : Value → Shared → Prop} (ra : VRel T.sym h ma a) (rb : VRel T.sym h mb b) (q : cmpP op ma mb σ Q)
    (k : ∀ c t', Q c → R (.bool c) (cx.mk' h t')) : wpAny (model cx.prog cx.w) A (compareOp op a b) R E (cx.mk' h t) := by
  cases op with
  | Eq =>
    obtain ⟨da, db, as, bs, r1, r2, c1, c2, d, q⟩ := eqP_rel I ra rb q
    exact SeqAt.compareEq_reads r1 r2 c1 c2 (by lia) (k _ _ q)
  | NotEq =>
    obtain ⟨da, db, as, bs, r1, r2, c1, c2, d, q⟩ := eqP_rel (Q := fun c => Q (!c)) I ra rb q
    exact SeqAt.compareNe_reads r1 r2 c1 c2 (by lia) (k _ _ q)
  | Lt => exact intP_rel (G := fun a b => wpAny _ A (compareOp .Lt a b) _ E _) ra rb q fun i j t u q => PyProof.Rows.lt_int (k _ _ q)
  | LtE => exact intP_rel (G := fun a b => wpAny _ A (compareOp .LtE a b) _ E _) ra rb q fun i j t u q => PyProof.Rows.le_int (k _ _ q)
  | Gt => exact intP_rel (G := fun a b => wpAny _ A (compareOp .Gt a b) _ E _) ra rb q fun i j t u q => PyProof.Rows.gt_int (k _ _ q)
  | GtE => exact intP_rel (G := fun a b => wpAny _ A (compareOp .GtE a b) _ E _) ra rb q fun i j t u q => PyProof.Rows.ge_int (k _ _ q)
  | Is =>
    obtain ⟨rfl, ⟨rfl, q⟩ | ⟨n, q⟩⟩ := nonP_rel ra rb q
    · exact wpAny_is_self rfl (k _ _ q)
    · exact wpAny_is_other n.1 n.2 (k _ _ q)
  | IsNot =>
    obtain ⟨rfl, ⟨rfl, q⟩ | ⟨n, q⟩⟩ := nonP_rel (Q := fun c => Q (!c)) ra rb q
    · exact wpAny_isNot_self rfl (k _ _ q)
    · exact wpAny_isNot_other n.1 n.2 (k _ _ q)
  | In =>
    obtain ⟨da, ds, as, bs, r1, c1, c2, d, r2 | r2, q⟩ := inP_rel I ra rb q
    · exact SeqAt.in_tuple_reads r2 r1 c2 c1 (by lia) (k _ _ q)
    · exact SeqAt.in_list_reads r2 r1 c2 c1 (by lia) (k _ _ q)
  | NotIn =>
    obtain ⟨da, ds, as, bs, r1, c1, c2, d, r2 | r2, q⟩ := inP_rel (Q := fun c => Q (!c)) I ra rb q
    · exact SeqAt.notIn_tuple_reads r2 r1 c2 c1 (by lia) (k _ _ q)
    · exact SeqAt.notIn_list_reads r2 r1 c2 c1 (by lia) (k _ _ q)
end
end Mine
end
section
open PySem PySem.W PyProof.Rows PySem.Builtin.ObjectAttr
set_option maxRecDepth 20000
namespace Mine
section
variable {T : Tab} {cx : Cx T} {fs : List Env} {own : Addr → Option Addr} {σ : Hp} {h : Heap} {A : Around} {t : Nat} {E : Value → Shared → Prop} {Q : MV → Hp → Prop} {X : Addr → Prop}
theorem sym_inj (cx : Cx T) {i j : Nat} {x : Str} (e : T.sym[i]? = some x) (e' : T.sym[j]? = some x) : i = j :=
  (List.getElem?_inj (List.getElem?_eq_some_iff.mp e).1 cx.nodup).mp (e.trans e'.symm)
theorem FRel.refKeys : ∀ {l : List (Nat × MV)} {es : List DictEntry}, FRel cx h l es → es.any (·.refKey) = false
  | [], _, r => by obtain rfl := r; rfl
  | _ :: _, _, r => by
    obtain ⟨e, r', x, t, rfl, _, ek, _, _, q⟩ := r
    rw [List.any_cons, q.refKeys]
    obtain ⟨_, k, _⟩ := e
    simp only at ek
    subst ek; rfl
theorem isStr_str (x y : Str) (t : Tok) : (Value.str x t).isStr y = (x == y) := rfl
set_option tactic.hygienic true in
theorem FRel.get {n : Nat} {x : Str} (ex : T.sym[n]? = some x) : ∀ {l : List (Nat × MV)} {es : List DictEntry} {m : MV}, FRel cx h l es → l.lookup n = some m → ∃ v, getL x es = some (some v) ∧ VRel T.sym h m v
  | [], _, _, _, q => by cases q
  | (k, m') :: l, _, m, r, q => by
    obtain ⟨e, r', y, t, rfl, ey, ek, eh, v, r⟩ := r
    rw [List.lookup_cons] at q
    by_cases z : n = k
    · subst z
      rw [beq_self_eq_true] at q
      cases q
      rw [ex] at ey; cases ey
      refine ⟨e.val, ?_, v⟩
      unfold getL
      rw [List.find?_cons, ek, isStr_str, beq_self_eq_true]
    · rw [beq_eq_false_iff_ne.mpr z] at q
      obtain ⟨v', g, rv⟩ := r.get ex q
      refine ⟨v', ?_, rv⟩
      have ne : x ≠ y := fun w => by subst w; exact z (sym_inj cx ex ey)
      unfold getL at g ⊢
      rw [List.find?_cons, ek, isStr_str, beq_eq_false_iff_ne.mpr (Ne.symm ne)]
      simp only
      split at g
      · rename_i e' he'; first | exact g | (rw [he']; exact g)
      · cases hh : r'.any (·.refKey) <;> rw [hh] at g <;> simp at g
theorem FRel.miss {n : Nat} {x : Str} (ex : T.sym[n]? = some x) : ∀ {l : List (Nat × MV)} {es : List DictEntry}, FRel cx h l es → l.lookup n = none → es.find? (·.key.isStr x) = none
  | [], _, r, _ => by obtain rfl := r; rfl
  | (k, m') :: l, _, r, q => by
    obtain ⟨e, r', y, t, rfl, ey, ek, eh, v, r⟩ := r
    rw [List.lookup_cons] at q
    by_cases z : n = k
    · subst z
      rw [beq_self_eq_true] at q
      cases q
    · rw [beq_eq_false_iff_ne.mpr z] at q
      have ne : x ≠ y := fun w => by subst w; exact z (sym_inj cx ex ey)
      rw [List.find?_cons, ek, isStr_str, beq_eq_false_iff_ne.mpr (Ne.symm ne)]
      exact r.miss ex q
theorem FRel.missL {n : Nat} {x : Str} (ex : T.sym[n]? = some x) {l : List (Nat × MV)} {es : List DictEntry} (r : FRel cx h l es) (q : l.lookup n = none) : getL x es = some none := by
  unfold getL
  rw [r.miss ex q]
  simp only
  rw [r.refKeys]; rfl
theorem FRel.put {n : Nat} {x : Str} (ex : T.sym[n]? = some x) {m : MV} {v : Value} (rv : VRel T.sym h m v) (tk : Tok) : ∀ {l : List (Nat × MV)} {es : List DictEntry}, FRel cx h l es →
    FRel cx h (putN n m l) (putL x (PyData.keyHash cx.w.params x) (.str x tk) v es)
  | [], _, r => by
    obtain rfl := r
    exact ⟨_, _, x, tk, rfl, ex, rfl, rfl, rv, rfl⟩
  | (k, m') :: l, _, r => by
    obtain ⟨e, r', y, t, rfl, ey, ek, eh, v', r⟩ := r
    obtain ⟨eh', ek', ev'⟩ := e
    simp only at ek eh v'
    subst ek eh
    rw [putN_cons]; unfold putL
    by_cases z : k = n
    · subst z
      rw [ex] at ey; cases ey
      rw [if_pos rfl, isStr_str, beq_self_eq_true, if_pos rfl]
      exact ⟨_, _, x, t, rfl, ex, rfl, rfl, rv, r⟩
    · have ne : y ≠ x := fun w => by subst w; exact z (sym_inj cx ey ex)
      rw [if_neg z, isStr_str, beq_eq_false_iff_ne.mpr ne, if_neg (by decide)]
      exact ⟨_, _, y, t, rfl, ey, rfl, rfl, v', r.put ex rv tk⟩
theorem FRel.length : ∀ {l : List (Nat × MV)} {es : List DictEntry}, FRel cx h l es → es.length = l.length
  | [], _, r => by obtain rfl := r; rfl
  | _ :: _, _, r => by
    obtain ⟨e, r', y, t, rfl, _, _, _, _, r⟩ := r
    rw [List.length_cons, List.length_cons, r.length]
theorem putN_length (n : Nat) (m : MV) : ∀ l : List (Nat × MV), (putN n m l).length ≤ l.length + 1
  | [] => Nat.le_refl _
  | (k, _) :: l => by
    rw [putN_cons]
    by_cases z : k = n
    · rw [if_pos z, List.length_cons, List.length_cons]; lia
    · rw [if_neg z, List.length_cons, List.length_cons]; have := putN_length n m l; lia
theorem instAt {a dx C : Addr} {es : List DictEntry} {n : Nat} (e : h.get? a = some (instObj C dx)) (ed : h.get? dx = some (dictOf es n)) : InstAt h a (instObj C dx) C (some (dictOf es n)) := ⟨e, rfl, rfl, ed⟩
theorem VRel.handed {m : MV} {u : Value} (rv : VRel T.sym h m u) : handedIn u = true := by
  cases m <;> first
    | (rw [rv.none_inv]; rfl) | (rw [rv.bool_inv]; rfl) | (obtain ⟨_, rfl⟩ := rv.int_inv; rfl) | (obtain ⟨_, _, _, rfl⟩ := rv.sym_inv; rfl) | (obtain ⟨_, rfl⟩ := rv.txt_inv; rfl)
    | (obtain ⟨_, _, _, rfl, _⟩ := rv.tup_inv; rfl) | (rw [rv.ref_inv]; rfl) | (obtain ⟨rfl, z⟩ := rv.con_inv; exact z)
theorem attr_exc (I : Inv cx fs own σ h) {a C : Addr} {l : List (Nat × MV)} {n : Nat} {x : Str} {ex : Bool} {m : MV} {R : Value → Shared → Prop} (hx : T.sym[n]? = some x) (hs : σ a = some (.exc C l)) (ok : T.okExc C n = true)
    (hl : l.lookup n = some m) (k : ∀ u t', VRel T.sym h m u → R u (cx.mk' h t')) : wpAny (model cx.prog cx.w) A (getAttr (.ref a) x ex) R E (cx.mk' h t) := by
  obtain ⟨y, cd, ey, hc, hd, hm, hrf, hsa, ht, hga, hx0, hsub, hq⟩ := cx.excs C n ok
  rw [hx] at ey; cases ey
  obtain ⟨q, hq⟩ := hq
  obtain ⟨_, od, vs, sl, e, tb, rr⟩ := I.objs a _ hs
  rcases rr with ⟨rfl, rfl⟩ | ⟨dx, es, nn, rfl, od', ne, ed, fr⟩
  · cases hl
  obtain ⟨u, gl, rv⟩ := fr.get hx hl
  have II : InstAt h a ⟨.ref C, some dx, .fields vs, sl⟩ C (some (dictOf es nn)) := ⟨e, rfl, rfl, ed⟩
  have hh : hasDictIn cx.K C = true := by unfold hasDictIn; rw [hc]; exact hd
  have L0 := II.type (M := model cx.prog cx.w)
  have L1 := looks_findIn (M := model cx.prog cx.w) I.K hga
  have L2 := looks_findIn (M := model cx.prog cx.w) I.K hq
  have LF := looks_find (M := model cx.prog cx.w) I.K II (findObj_own hh hx0 rfl gl)
  have sub : Looks (model cx.prog cx.w) h (isInstance (.ref a) (.type "BaseException")) true := L0.andThen (looks_subIn I.K hsub)
  have SG := F.excAttr_ValueError.ga
  have hx0 : (ex && onTheHeap (Value.builtin "BaseException.__getattribute__")) = false := by cases ex <;> rfl
  unfold getAttr getAttrBy
  refine wpAny_bind (wpAny_mkText (wpAny_holding (wpAny_bind (L0.at (wpAny_bind (L1.at ?_))))))
  have hx2 : (Value.builtin "BaseException.__getattribute__" == Value.builtin "object.__getattribute__") = false := by decide +kernel
  dsimp only
  rw [hx2, Bool.and_false, if_neg (by decide)]
  unfold getAttrByItsOwn hookBefore
  refine wpAny_bind ?_
  rw [show onTheHeap (.ref C) = true from rfl, if_pos rfl]
  refine L2.at (wpAny_bind (wpAny_attempt (wpAny_holding ?_)))
  unfold callGetattribute
  rw [hx0, if_neg (by decide)]
  unfold boundAndCalled
  rw [SG.bind]
  refine wpAny_bind (wpAny_pure ?_)
  refine wpAny_call (codeAny_call_builtin SG.plain F.entry_bexc_ga (@check_slot (model cx.prog cx.w) _ _ _ "BaseException.__getattribute__" "BaseException" "__getattribute__" (.ref a) [.str x t] [] _ (by decide +kernel) (by decide +kernel) sub (F.args_bexc_ga _ _) ?_))
  unfold Builtin.«object.__getattribute__»
  refine wpAny_bind (wpAny_pure (wpAny_bind (wpAny_pure (wpAny_bind (L0.at (wpAny_bind (LF.at ?_)))))))
  refine wpAny_pure ?_
  show wpAny _ _ (handedOut u) _ _ _
  rw [handedOut_of rv.handed]
  exact wpAny_pure (k u _ rv)
set_option tactic.hygienic true in
theorem attr_sound (I : Inv cx fs own σ h) {o : MV} {v : Value} {n : Nat} {x : Str} {ex : Bool} {Q : MV → Prop} {R : Value → Shared → Prop} (hx : T.sym[n]? = some x) (ro : VRel T.sym h o v) (q : attrP T o n σ Q)
    (k : ∀ m u t', VRel T.sym h m u → Q m → R u (cx.mk' h t')) : wpAny (model cx.prog cx.w) A (getAttr v x ex) R E (cx.mk' h t) := by
  obtain ⟨a, C, fs', m, rfl, hl, q, ⟨hs, ok⟩ | ⟨hs, ok⟩⟩ := q
  · obtain rfl := ro.ref_inv
    obtain ⟨y, ey, pg, hh, ⟨at_, ha, hn⟩, _⟩ := cx.plain C n ok
    obtain rfl := Option.some.inj (hx.symm.trans ey)
    obtain ⟨_, dx, es, nn, e, od, ne, ed, fr⟩ := I.objs a _ hs
    obtain ⟨u, gl, rv⟩ := fr.get hx hl
    exact get_value (s := cx.mk' h t) I.K (instAt e ed) (plainGet_of pg).1 (findObj_own hh ha hn gl) rv.handed (k m u _ rv q)
  · obtain rfl := ro.ref_inv
    exact attr_exc I hx hs ok hl fun u t' rv => k m u t' rv q
theorem osa_open' {x C : Addr} {ox : Obj} {od : Option Obj} {name : Str} {tk : Tok} {v : Value} {cd : ClassData} {s : Shared} {R : Result → Shared → Prop} (X : cx.K.In s.heap) (I : InstAt s.heap x ox C od) (hc : clsIn cx.K C = some cd)
    (hm : mroIn cx.K C (.type "object") = some true) (hrf : ∀ self, refuseLoop self "__setattr__" cd.mro = pure ()) (ht : takerIn cx.K C name = some none)
    (k : ∀ b, wpAny (model cx.prog cx.w) A.in1 (storeInOwnDict (.ref x) (.ref C) (.str name tk) name v b)
      (fun fin s' => match fin with | .done f => R (.ok f) s' | .again c' => c'.quiet = true ∧ codeAny (model cx.prog cx.w) A c' R s') (fun e s' => R (.error e) s') s) :
    codeAny (model cx.prog cx.w) A (.call (.builtin "object.__setattr__") ⟨[.ref x, .str name tk, v], []⟩) R s := by
  have SF := PySem.F.store_object
  have sub : Looks (model cx.prog cx.w) s.heap (isInstance (.ref x) (.type "object")) true := I.type.andThen (looks_mroIn X hm)
  refine codeAny_call_builtin SF.slot.plain SF.entry (@check_slot (model cx.prog cx.w) _ _ s "object.__setattr__" "object" "__setattr__" (.ref x) [.str name tk, v] [] _ SF.kind SF.split sub (SF.args (.ref x) (.str name tk) v) ?_)
  obtain ⟨attr, ha, hr⟩ := Option.bind_eq_some_iff.mp ht
  have hmr : Looks (model cx.prog cx.w) s.heap (mroOf (.ref C)) cd.mro := (looks_clsIn X hc).andThen .now
  have L3 : Looks (model cx.prog cx.w) s.heap (storeTaker? attr) none := by
    cases attr with
    | none => exact .now
    | some a =>
      obtain ⟨b, hb, e⟩ := Option.map_eq_some_iff.mp hr
      refine (looks_takesIn X hb).andThen ?_
      cases b
      · exact .now
      · cases e
  rw [osa_eq, refuse_eq]
  refine wpAny_bind (wpAny_bind (I.type.here (wpAny_bind (hmr.here ?_))))
  rw [hrf]
  refine wpAny_pure (wpAny_bind (I.type.here (wpAny_bind ((looks_findIn X ha).here (wpAny_bind (L3.here ?_))))))
  exact k _
set_option tactic.hygienic true in
theorem osa_dict' {x dx C : Addr} {name : Str} {tk : Tok} {v : Value} {es : List DictEntry} {n t : Nat} {R : Result → Shared → Prop} {oc : Value} {dt : Data} {sl : Array (Option Value)} {cd : ClassData} (X : cx.K.In h)
    (I : InstAt h x ⟨oc, some dx, dt, sl⟩ C (some (dictOf es n))) (hc : clsIn cx.K C = some cd)
    (hm : mroIn cx.K C (.type "object") = some true) (hrf : ∀ self, refuseLoop self "__setattr__" cd.mro = pure ()) (hd : cd.hasDict = true)
    (ht : takerIn cx.K C name = some none)
    (hl : (getL name es).isSome = true) (hz : (putL name (PyData.keyHash cx.w.params name) (.str name t) v es).length ≤ 1000)
    (k : R (.ok (.ret .none)) (cx.mk' (h.update dx (Obj.putName name (PyData.keyHash cx.w.params name) (.str name t) v)) (t + 1))) :
    codeAny (model cx.prog cx.w) A (.call (.builtin "object.__setattr__") ⟨[.ref x, .str name tk, v], []⟩) R (cx.mk' h t) := by
  refine osa_open' (s := cx.mk' h t) X I hc hm hrf ht fun b => ?_
  obtain ⟨hx, hcl, hn, D⟩ := I
  dsimp only at hcl D
  subst hcl
  refine wpAny_bind (wpAny_pure (wpAny_bind (wpAny_bind (wpAny_loadPart hx (wpAny_bind ((looks_clsIn X hc).here ?_))))))
  rw [hd]
  refine wpAny_pure (a := some dx) (wpAny_bind (wpAny_pure (wpAny_bind ?_)))
  unfold nsSet
  refine wpAny_bind (wpAny_bind (wpAny_askSetting (wpAny_pure (wpAny_bind (wpAny_mkText (wpAny_bind (wpAny_loadPart D ?_)))))))
  have hl' := hl
  unfold getL at hl'
  have c : (!es.toArray.any (·.key.isStr name) && es.toArray.any (·.refKey)) = false := by
    rw [← Array.any_toList, ← Array.any_toList]
    split at hl'
    · rename_i en he
      rw [List.any_eq_true.mpr ⟨en, List.mem_of_find?_eq_some he, List.find?_some he⟩]; rfl
    · split at hl'
      · cases hl'
      · rename_i z; rw [Bool.not_eq_true] at z; rw [z, Bool.and_false]
  dsimp only [dictOf]
  rw [aRefKeyMayBeTheName_at, c]
  have D' : (h.update dx (Obj.putName name (PyData.keyHash cx.w.params name) (.str name t) v)).get? dx = some (dictOf (putL name (PyData.keyHash cx.w.params name) (.str name t) v es) (W.putN name es n)) := by
    have := Heap.get?_update_self (Obj.putName name (PyData.keyHash cx.w.params name) (.str name t) v) D (by rw [putName_dict]; rfl)
    rw [this, putName_dict]
  refine wpAny_updatePart D ?_
  refine wpAny_bind (wpAny_lookBehind D' (by exact pastItsLine_dict (by rw [List.size_toArray, sizeLine_eq]; lia)) ?_)
  exact wpAny_pure k
theorem osa_first {x C : Addr} {name : Str} {tk : Tok} {v : Value} {t : Nat} {R : Result → Shared → Prop} {vs : Array Value} {sl : Array (Option Value)} {cd : ClassData} (X : cx.K.In h)
    (hx : h.get? x = some ⟨.ref C, none, .fields vs, sl⟩) (hc : clsIn cx.K C = some cd)
    (hm : mroIn cx.K C (.type "object") = some true) (hrf : ∀ self, refuseLoop self "__setattr__" cd.mro = pure ()) (hd : cd.hasDict = true)
    (ht : takerIn cx.K C name = some none)
    (k : R (.ok (.ret .none)) (cx.mk' (((h.push (dictOf [] 0)).update x fun o => { o with dict := some h.objs.size }).update h.objs.size (Obj.putName name (PyData.keyHash cx.w.params name) (.str name t) v)) (t + 1))) :
    codeAny (model cx.prog cx.w) A (.call (.builtin "object.__setattr__") ⟨[.ref x, .str name tk, v], []⟩) R (cx.mk' h t) := by
  have I : InstAt h x ⟨.ref C, none, .fields vs, sl⟩ C none := ⟨hx, rfl, rfl, trivial⟩
  refine osa_open' (s := cx.mk' h t) X I hc hm hrf ht fun b => ?_
  refine wpAny_bind (wpAny_pure (wpAny_bind (wpAny_bind (wpAny_loadPart hx (wpAny_bind ((looks_clsIn X hc).here ?_))))))
  rw [hd]
  have hx1 : (h.push (dictOf [] 0)).get? x = some ⟨.ref C, none, .fields vs, sl⟩ := Heap.get?_push_of_some _ hx
  have D : ((h.push (dictOf [] 0)).update x fun o => { o with dict := some h.objs.size }).get? h.objs.size = some (dictOf [] 0) := by
    rw [Heap.get?_update_other _ _ (Nat.ne_of_lt (Heap.lt_size hx))]
    exact Heap.get?_push_size h rfl
  refine wpAny_bind (wpAny_alloc (wpAny_bind (wpAny_update hx1 (wpAny_bind (wpAny_pure ?_)))))
  refine wpAny_pure (a := some h.objs.size) (wpAny_bind (wpAny_pure (wpAny_bind ?_)))
  unfold nsSet
  refine wpAny_bind (wpAny_bind (wpAny_askSetting (wpAny_pure (wpAny_bind (wpAny_mkText (wpAny_bind (wpAny_loadPart D ?_)))))))
  dsimp only [dictOf]
  have c : aRefKeyMayBeTheName name ([] : List DictEntry).toArray = false := by rw [aRefKeyMayBeTheName_at]; simp
  rw [c]
  have D' : (((h.push (dictOf [] 0)).update x fun o => { o with dict := some h.objs.size }).update h.objs.size (Obj.putName name (PyData.keyHash cx.w.params name) (.str name t) v)).get? h.objs.size = some (dictOf (putL name (PyData.keyHash cx.w.params name) (.str name t) v []) (W.putN name [] 0)) := by
    have := Heap.get?_update_self (Obj.putName name (PyData.keyHash cx.w.params name) (.str name t) v) D (by rw [putName_dict]; rfl)
    rw [this, putName_dict]
  refine wpAny_updatePart D ?_
  refine wpAny_bind (wpAny_lookBehind D' (by exact pastItsLine_dict (by rw [List.size_toArray, sizeLine_eq]; show 1 ≤ 16777216 + 1; decide)) ?_)
  exact wpAny_pure k
noncomputable def ownAdd (own : Addr → Option Addr) (d a : Addr) : Addr → Option Addr := fun b => if b = d then some a else own b
theorem ownAdd_ext (I : Inv cx fs own σ h) {d a : Addr} (e : h.get? d = none) : OwnExt own (ownAdd own d a) h ∧ ∀ b y, ownAdd own d a b = some y → own b = some y ∨ y = a := by
  obtain ⟨_, n⟩ := I.fresh e
  refine ⟨⟨fun b y q => ?_, fun b y q => ?_⟩, fun b y q => ?_⟩
  · unfold ownAdd
    by_cases z : b = d
    · subst z; rw [n] at q; cases q
    · rw [if_neg z]; exact q
  · unfold ownAdd at q
    by_cases z : b = d
    · subst z; exact .inr ⟨n, e⟩
    · rw [if_neg z] at q; exact .inl q
  · unfold ownAdd at q
    by_cases z : b = d
    · rw [if_pos z] at q; exact .inr (Option.some.inj q).symm
    · rw [if_neg z] at q; exact .inl q
theorem clsNe0 {a b : String} (n : a ≠ b) {P : Prop} (e : Value.type a = Value.type b) : P := absurd (by cases e; rfl) n
set_option tactic.hygienic true in
theorem setattr_sound (I : Inv cx fs own σ h) {o m : MV} {ov v : Value} {n : Nat} {x : Str} {K : Hp → Prop} (hx : T.sym[n]? = some x) (ro : VRel T.sym h o ov) (rv : VRel T.sym h m v) (q : setAttrP T o n m σ K) :
    wpAny (model cx.prog cx.w) A (setAttr ov x v) (Pst cx fs X own h (UQ K)) E (cx.mk' h t) := by
  obtain ⟨a, C, l, rfl, hz, q⟩ := q
  · obtain rfl := ro.ref_inv
    rcases q with ⟨hs, ok, q⟩ | ⟨hs, ok, q⟩
    · skip
      obtain ⟨y, ey, pg, hh, ⟨at_, ha, hn⟩, hsa, ht, hp⟩ := cx.plain C n ok
      rw [hx] at ey; cases ey
      obtain ⟨oa, dx, es, nn, e, od, ne, ed, fr⟩ := I.objs a _ hs
      obtain ⟨cd, hc, hd⟩ := any_some hh
      obtain ⟨cd', hc', ho⟩ := any_some hp
      rw [hc] at hc'; cases hc'
      have nem : cd.mro.isEmpty = false := by cases q : cd.mro with | nil => rw [q] at ho; cases ho | cons _ _ => rfl
      refine set_plain (s := cx.mk' h t) I.K (instAt e ed) hsa (osa_dict' (t := t + 1) I.K (instAt e ed) hc (by unfold mroIn; rw [hc, Option.bind_some, if_neg (by rw [nem]; decide), only_has ho]) (fun self => refuse_only self ho) hd ht ?_ ?_ ?_)
      · cases q' : l.lookup n with
        | none => rw [fr.missL hx q']; rfl
        | some m' => obtain ⟨_, z, _⟩ := fr.get hx q'; rw [z]; rfl
      · have := (fr.put hx rv (t + 1)).length
        rw [this]
        have := putN_length n m l
        lia
      · have ed' := Heap.get?_update_self (Obj.putName x (PyData.keyHash cx.w.params x) (.str x (t + 1)) v) ed (by rw [putName_dict]; rfl)
        rw [putName_dict] at ed'
        have oth : ∀ b, b ≠ dx → (h.update dx (Obj.putName x (PyData.keyHash cx.w.params x) (.str x (t + 1)) v)).get? b = h.get? b := fun b nb => Heap.get?_update_other _ _ (Ne.symm nb)
        obtain ⟨I', k⟩ := I.store (h' := h.update dx (Obj.putName x (PyData.keyHash cx.w.params x) (.str x (t + 1)) v)) (mo' := .inst C (putN n m l)) hs
          (fun b o e1 e2 => (oth b fun z => by subst z; exact e2 od).trans e1)
          (fun b o eb g => by
            by_cases z : b = dx
            · subst z; rw [ed] at g; cases g; exact ⟨_, ed', rfl⟩
            · exact ⟨o, (oth b z).trans g, rfl⟩)
          (fun tk => ⟨dx, _, _, (oth a (Ne.symm ne)).trans e, od, ne, ed', (fr.tk tk).put hx (rv.tk tk) (t + 1)⟩)
        exact ⟨_, t + 2, _, _, rfl, I', .refl .., k.mono fun _ z => z.elim, q⟩
    · skip
      obtain ⟨y, cd, ey, hc, hd, hm, hrf, hsa, ht, _⟩ := cx.excs C n ok
      rw [hx] at ey; cases ey
      obtain ⟨oa, od, vs, sl, e, tb, r⟩ := I.objs a _ hs
      rcases r with ⟨rfl, rfl⟩ | ⟨dx, es, nn, rfl, od, ne, ed, fr⟩
      · refine set_plain (s := cx.mk' h t) (od := none) I.K ⟨e, rfl, rfl, trivial⟩ hsa (osa_first (t := t + 1) I.K e hc hm hrf hd ht ?_)
        have ha := Heap.lt_size e
        have hne : a ≠ h.objs.size := Nat.ne_of_lt ha
        have hx1 : (h.push (dictOf [] 0)).get? a = some ⟨.ref C, none, .fields vs, sl⟩ := Heap.get?_push_of_some _ e
        have D : ((h.push (dictOf [] 0)).update a fun o => { o with dict := some h.objs.size }).get? h.objs.size = some (dictOf [] 0) := by
          rw [Heap.get?_update_other _ _ hne]
          exact Heap.get?_push_size h rfl
        have D' := Heap.get?_update_self (Obj.putName x (PyData.keyHash cx.w.params x) (.str x (t + 1)) v) D (by rw [putName_dict]; rfl)
        rw [putName_dict] at D'
        have A1 : ((h.push (dictOf [] 0)).update a fun o => { o with dict := some h.objs.size }).get? a = some ⟨.ref C, some h.objs.size, .fields vs, sl⟩ := Heap.get?_update_self (fun o : Obj => { o with dict := some h.objs.size }) hx1 rfl
        have A2 : (((h.push (dictOf [] 0)).update a fun o => { o with dict := some h.objs.size }).update h.objs.size (Obj.putName x (PyData.keyHash cx.w.params x) (.str x (t + 1)) v)).get? a = some ⟨.ref C, some h.objs.size, .fields vs, sl⟩ := by
          rw [Heap.get?_update_other _ _ (Ne.symm hne)]; exact A1
        have oth : ∀ b o, b ≠ a → h.get? b = some o → (((h.push (dictOf [] 0)).update a fun o => { o with dict := some h.objs.size }).update h.objs.size (Obj.putName x (PyData.keyHash cx.w.params x) (.str x (t + 1)) v)).get? b = some o := fun b o nb eb => by
          rw [Heap.get?_update_other _ _ (Nat.ne_of_gt (Heap.lt_size eb)), Heap.get?_update_other _ _ (Ne.symm nb)]
          exact Heap.get?_push_of_some _ eb
        obtain ⟨x1, x2⟩ := ownAdd_ext (a := a) I (get?_size h)
        have fr : FRel cx h [] [] := rfl
        obtain ⟨I', k⟩ := I.upd (mo := .exc C (putN n m [])) x1 x2 (fun b o e1 e2 => oth b o (fun z => by subst z; exact e2 oa) e1)
          (fun b eb => by
            by_cases z : b = h.objs.size
            · subst z; exact ⟨base_size I, _, D', dictNe⟩
            · unfold ownAdd at eb
              rw [if_neg z] at eb
              obtain ⟨z1, o, g, c⟩ := I.ownd b a eb
              by_cases z2 : b = a
              · subst z2; exact ⟨z1, _, A2, refNe C⟩
              · exact ⟨z1, o, oth b o z2 g, c⟩)
          (fun b o eb g => by
            by_cases z2 : b = a
            · subst z2; rw [e] at g; cases g; exact ⟨_, A2, rfl⟩
            · exact ⟨o, oth b o z2 g, rfl⟩) (x1.up _ _ oa)
          (fun tk => ⟨some h.objs.size, vs, sl, A2, by
              rcases tb with ⟨tb, tn⟩ | ⟨t', ot, ts, e1, e2, e3, e4, e5, e6⟩
              · refine .inl ⟨tb, fun t' o' q' g' => ?_⟩
                by_cases z : t' = h.objs.size
                · subst z; rw [D'] at g'; cases g'; exact fun z => clsNe0 (by decide) z
                · unfold ownAdd at q'
                  rw [if_neg z] at q'
                  by_cases z2 : t' = a
                  · subst z2; rw [A2] at g'; cases g'; intro z; cases z
                  · obtain ⟨_, o2, g2, _⟩ := I.ownd t' a q'
                    have := oth t' o2 z2 g2
                    rw [g'] at this; cases this
                    exact tn t' o' q' g2
              · exact .inr ⟨t', ot, ts, e1, x1.up _ _ e2, e3, oth t' ot e3 e4, e5, e6⟩, .inr ⟨h.objs.size, _, _, rfl, by unfold ownAdd; rw [if_pos rfl], Ne.symm hne, D', fr.put hx (rv.tk tk) (t + 1)⟩⟩)
        exact ⟨_, t + 2, _, _, rfl, I', x1, k.mono fun _ z => z.elim, q⟩
      · have IA : InstAt h a ⟨.ref C, some dx, .fields vs, sl⟩ C (some (dictOf es nn)) := ⟨e, rfl, rfl, ed⟩
        refine set_plain (s := cx.mk' h t) I.K IA hsa (osa_dict' (t := t + 1) I.K IA hc hm hrf hd ht ?_ ?_ ?_)
        · cases q' : l.lookup n with
          | none => rw [fr.missL hx q']; rfl
          | some m' => obtain ⟨_, z, _⟩ := fr.get hx q'; rw [z]; rfl
        · have := (fr.put hx rv (t + 1)).length
          rw [this]
          have := putN_length n m l
          lia
        · have ed' := Heap.get?_update_self (Obj.putName x (PyData.keyHash cx.w.params x) (.str x (t + 1)) v) ed (by rw [putName_dict]; rfl)
          rw [putName_dict] at ed'
          have oth : ∀ b, b ≠ dx → (h.update dx (Obj.putName x (PyData.keyHash cx.w.params x) (.str x (t + 1)) v)).get? b = h.get? b := fun b nb => Heap.get?_update_other _ _ (Ne.symm nb)
          have tbn : ∀ t' ot ts, own t' = some a → h.get? t' = some ot → ot.data = .fields ts → t' ≠ dx := fun t' ot ts _ g c z => by
            subst z; rw [ed] at g; cases g; cases c
          obtain ⟨I', k⟩ := I.store (h' := h.update dx (Obj.putName x (PyData.keyHash cx.w.params x) (.str x (t + 1)) v)) (mo' := .exc C (putN n m l)) hs
            (fun b o e1 e2 => (oth b fun z => by subst z; exact e2 od).trans e1)
            (fun b o eb g => by
              by_cases z : b = dx
              · subst z; rw [ed] at g; cases g; exact ⟨_, ed', rfl⟩
              · exact ⟨o, (oth b z).trans g, rfl⟩)
            (fun tk => ⟨some dx, vs, sl, (oth a (Ne.symm ne)).trans e, by
              rcases tb with ⟨tb, tn⟩ | ⟨t', ot, ts, e1, e2, e3, e4, e5, e6⟩
              · refine .inl ⟨tb, fun t' o' q' g' => ?_⟩
                by_cases z : t' = dx
                · subst z; rw [ed'] at g'; cases g'; exact fun z => clsNe0 (by decide) z
                · exact tn t' o' q' ((oth t' z).symm.trans g')
              · exact .inr ⟨t', ot, ts, e1, e2, e3, (oth t' (tbn t' ot ts e2 e4 e5)).trans e4, e5, e6⟩, .inr ⟨dx, _, _, rfl, od, ne, ed', (fr.tk tk).put hx (rv.tk tk) (t + 1)⟩⟩)
          exact ⟨_, t + 2, _, _, rfl, I', .refl .., k.mono fun _ z => z.elim, q⟩
end
end Mine
end
section
open PySem PySem.W PyProof.Rows PySem.Builtin.ObjectAttr
set_option maxRecDepth 20000
namespace Mine
section
variable {T : Tab} {cx : Cx T} {fs : List Env} {own : Addr → Option Addr} {σ : Hp} {h : Heap} {A : Around} {t : Nat} {E : Value → Shared → Prop} {Q : MV → Hp → Prop} {X : Addr → Prop}
theorem isList {a : Addr} {ys : List Value} {n : Nat} (e : h.get? a = some (listOf ys.toArray n)) : h.IsList a ys.toArray := ⟨_, e, rfl, n, rfl⟩
theorem isTup {a : Addr} {ys : List Value} {n : Nat} (e : h.get? a = some (tupObj ys n)) : IsTup h a ys.toArray := ⟨_, e, rfl, n, rfl⟩
set_option tactic.hygienic true in
theorem meth_sound (I : Inv cx fs own σ h) {o : MV} {ov : Value} {n : Nat} {x : Str} {pl : Sem Bool} {K : Value → List MV → Prop} {R : Value × List Value → Shared → Prop} (hx : T.sym[n]? = some x) (ro : VRel T.sym h o ov) (q : methP T o n σ K)
    (k : ∀ f ms vs t', callOk cx.K f = true → VRels T.sym h ms vs → K f ms → R (f, vs) (cx.mk' h t')) : wpAny (model cx.prog cx.w) A (getMethod ov x pl) R E (cx.mk' h t) := by
  have ck : ∀ f, keepIn cx.K f = true → callOk cx.K f = true := fun f e => by unfold callOk; rw [e]; rfl
  have cb : ∀ id, callOk cx.K (.builtin id) = true := fun id => by unfold callOk; simp
  have one : ∀ a, VRels T.sym h [.ref a] [.ref a] := fun a => .cons (.mk_ref a) .nil
  rcases q with ⟨C, f, rfl, hf, q⟩ | ⟨a, rfl, q⟩
  · obtain ⟨y, ey, sg, rd, fc, kf⟩ := cx.clsAttrs C n f hf
    rw [hx] at ey; cases ey
    have := ro.con_inv.1; subst this
    exact method_cls (s := cx.mk' h t) I.K sg (cls_value (s := cx.mk' h t) I.K rd fc rfl (k _ _ _ _ (ck _ kf) .nil q))
  · obtain rfl := ro.ref_inv
    rcases q with ⟨C, l, f, hs, hn, hf, q⟩ | ⟨l, hs, q⟩ | ⟨kvs, hs, rfl, q⟩
    · obtain ⟨y, ey, pg, ff, fn, kf⟩ := cx.meths C n f hf
      rw [hx] at ey; cases ey
      obtain ⟨oa, dx, es, nn, e, od, ne, ed, fr⟩ := I.objs a _ hs
      refine method_fn (s := cx.mk' h t) I.K (instAt e ed) (plainGet_of pg).1 (plainGet_of pg).2 ff (beq_iff_eq.mp fn) ?_ (k _ _ _ _ (ck _ kf) (one a) q)
      show (lookIn x (dictOf es nn)).map _ = _
      rw [lookIn_dict, fr.missL hx hn]; rfl
    · obtain ⟨oa, ys, nn, e, r⟩ := I.objs a _ hs
      have nd : ∀ a', Value.ref a = .ref a' → ∃ o, (cx.mk' h t).heap.get? a' = some o ∧ o.dict = none := fun a' z => by cases z; exact ⟨_, e, rfl⟩
      rcases q with ⟨rfl, q⟩ | ⟨rfl, q⟩ | ⟨rfl, q⟩
      · rw [show T.sym[sAppend]? = some (Str.ofString "append") from cx.s0] at hx
        cases hx
        exact getMethod_builtin (s := cx.mk' h t) (T := "list") ⟨_, e, rfl⟩ PySem.F.plainAttrs_list PySem.F.slot_list_append PySem.F.type_list_append nd (k _ _ _ _ (cb _) (one a) q)
      · rw [show T.sym[sPop]? = some (Str.ofString "pop") from cx.s1] at hx
        cases hx
        exact getMethod_builtin (s := cx.mk' h t) (T := "list") ⟨_, e, rfl⟩ PySem.F.plainAttrs_list PySem.F.slot_list_pop PySem.F.type_list_pop nd (k _ _ _ _ (cb _) (one a) q)
      · rw [show T.sym[sReverse]? = some (Str.ofString "reverse") from cx.s2] at hx
        cases hx
        exact getMethod_builtin (s := cx.mk' h t) (T := "list") ⟨_, e, rfl⟩ PySem.F.plainAttrs_list PySem.F.slot_list_reverse PySem.F.type_list_reverse nd (k _ _ _ _ (cb _) (one a) q)
    · obtain ⟨oa, hsys, l, D, r⟩ := I.objs a _ hs
      rw [show T.sym[sGet]? = some (Str.ofString "get") from cx.s3] at hx
      cases hx
      exact getMethod_builtin (s := cx.mk' h t) D.typeIs PySem.F.plainAttrs_dict PySem.F.slot_dict_get PySem.F.type_dict_get D.mapOf.noDict (k _ _ _ _ (cb _) (one a) q)
theorem tail_gen {value slice : Expr} {o i : Value} {T' id : String} {ops : List Value} {s : Shared} {R : Value → Shared → Prop} {prog : Program} {w : World} (hT : s.TypeIs o T') (hl : typeLookup (.type T') "__getitem__" = pure (some (.builtin id)))
    (h : wpAny (model prog w) A (getItem o i) R E s) (hs : subscripted slice false o i = operate ops (getItem o i)) : wpAny (model prog w) A (subscriptTail value slice o i) R E s :=
  kba_turn (value' := .Name (Str.ofString "_") ⟨0, 0, 0, 0⟩) (fun _ => rfl) (subscriptTail_ops hT hl h hs fun _ => rfl)
theorem seqIx_seqIndex {i : Int} {n j : Nat} (e : seqIx i n = some j) : seqIndex? i n = some j := by
  unfold seqIx at e
  unfold seqIndex?
  by_cases h0 : 0 ≤ i
  · rw [if_pos h0] at e
    have h0' : ¬ i < 0 := by lia
    rw [if_neg h0']
    by_cases h1 : i < n
    · rw [if_pos h1] at e
      simp only [h0, h1, decide_true, Bool.and_self, if_true]; exact e
    · rw [if_neg h1] at e; cases e
  · rw [if_neg h0] at e
    have h0' : i < 0 := by lia
    rw [if_pos h0']
    by_cases h1 : 0 ≤ i + n
    · rw [if_pos h1] at e
      have h2 : i + n < n := by lia
      simp only [h1, h2, decide_true, Bool.and_self, if_true]; exact e
    · rw [if_neg h1] at e; cases e
theorem seqIx_lt {i : Int} {n j : Nat} (e : seqIx i n = some j) : j < n ∧ -(n : Int) ≤ i ∧ i < n := by
  unfold seqIx at e
  by_cases h0 : 0 ≤ i
  · rw [if_pos h0] at e
    by_cases h1 : i < n
    · rw [if_pos h1] at e; cases e; lia
    · rw [if_neg h1] at e; cases e
  · rw [if_neg h0] at e
    by_cases h1 : 0 ≤ i + n
    · rw [if_pos h1] at e; cases e; lia
    · rw [if_neg h1] at e; cases e
theorem KvS.get (cx : Cx T) {n : Nat} {x : Str} (ex : T.sym[n]? = some x) : ∀ {kvs : List (Nat × MV)} {l : List (Str × Value)} {m : MV}, KvS T.sym h kvs l → kvs.lookup n = some m → ∃ v, valueAt l x = some v ∧ VRel T.sym h m v
  | [], _, _, _, q => by cases q
  | (k, m') :: kvs, _, m, r, q => by
    obtain ⟨y, v, l', ey, rfl, rv, r⟩ := r
    rw [List.lookup_cons] at q
    unfold valueAt
    by_cases z : n = k
    · subst z
      rw [beq_self_eq_true] at q
      cases q
      rw [ex] at ey; cases ey
      exact ⟨v, by rw [List.find?_cons]; simp, rv⟩
    · rw [beq_eq_false_iff_ne.mpr z] at q
      have ne : y ≠ x := fun w => by subst w; exact z (sym_inj cx ex ey)
      obtain ⟨v', g, rv'⟩ := r.get cx ex q
      refine ⟨v', ?_, rv'⟩
      rw [List.find?_cons]
      simp only [ne, decide_false]
      exact g
set_option tactic.hygienic true in
theorem item_sound (I : Inv cx fs own σ h) {o i : MV} {ov iv : Value} {value slice : Expr} {R : Value → Shared → Prop} (hns : ∀ a b c d, slice ≠ .Slice a b c d) (ro : VRel T.sym h o ov) (ri : VRel T.sym h i iv) (q : itemP o i σ Q)
    (k : ∀ m v t', VRel T.sym h m v → Q m σ → R v (cx.mk' h t')) : wpAny (model cx.prog cx.w) A (subscriptTail value slice ov iv) R E (cx.mk' h t) := by
  have hs : ∀ o i, subscripted slice false o i = operate [o, i] (getItem o i) := fun o i => by
    cases slice <;> first | rfl | exact absurd rfl (hns _ _ _ _)
  cases o with
  | tup xs =>
    obtain ⟨a, ys, n, rfl, g, r⟩ := ro.tup_inv
    obtain ⟨j, rfl, q⟩ := natP_inv q
    obtain ⟨u, rfl⟩ := ri.int_inv
    obtain ⟨hj, x, e2, q⟩ := nthP_inv q
    obtain ⟨v, ev, rv⟩ := r.get e2
    have e1 : seqIx (j : Int) xs.length = some j := by
      have hl : j < xs.length := (List.getElem?_eq_some_iff.mp e2).1
      unfold seqIx; rw [if_pos (by lia), if_pos (by lia)]; simp
    refine tail_gen (s := cx.mk' h t) (isTup g).typeIs slot_tuple_getitem.lookup (PyProof.Rows.getItem_tuple (isTup g) (by show (-_ : Int) ≤ (j : Int); lia) (by show (j : Int) < _; lia) (j := j) (x := v) ?_ ?_ (k _ _ _ rv q)) (hs _ _)
    · rw [List.size_toArray, r.length]; exact seqIx_seqIndex e1
    · simpa using ev
  | ref a =>
  obtain rfl := ro.ref_inv
  rcases q with ⟨j, xs, jj, x, rfl, ⟨b1, b2⟩, hs', e1, e2, q⟩ | ⟨n, kvs, m, rfl, hs', e1, q⟩
  · obtain ⟨u, rfl⟩ := ri.int_inv
    obtain ⟨oa, ys, n, g, r⟩ := I.objs a _ hs'
    obtain ⟨v, ev, rv⟩ := r.get e2
    have lt := seqIx_lt e1
    have hlen := r.length
    refine tail_gen (s := cx.mk' h t) (isList g).typeIs PySem.slot_list_getitem.lookup ?_ (hs _ _)
    by_cases h0 : 0 ≤ j
    · refine wpAny_getItem_list (s := cx.mk' h t) (isList g) h0 (by lia) (x := v) ?_ (k _ _ _ rv q)
      unfold seqIx at e1
      rw [if_pos h0, if_pos lt.2.2] at e1
      cases e1
      simpa using ev
    · refine wpAny_getItem_list_neg (s := cx.mk' h t) (isList g) (by lia) (by rw [List.size_toArray]; lia) (by lia) (x := v) ?_ (k _ _ _ rv q)
      unfold seqIx at e1
      rw [if_neg h0, if_pos (by lia)] at e1
      cases e1
      rw [List.size_toArray, hlen]
      simpa using ev
  · obtain ⟨x, u, ex, rfl⟩ := ri.sym_inv
    obtain ⟨oa, l, D, r⟩ := I.objs a _ hs'
    obtain ⟨v, ev, rv⟩ := r.get cx ex e1
    exact tail_gen (s := cx.mk' h t) D.typeIs PySem.slot_dict_getitem.lookup (wpAny_getItem_of (strKind_is cx.prog cx.w x u) D.mapOf ev (k _ _ _ rv q)) (hs _ _)
  | _ => exact q.elim
theorem mn {x : Int} (h : 0 ≤ x) (n : Nat) : min x (n : Int) = ((min x.toNat n : Nat) : Int) := by
  obtain ⟨k, rfl⟩ := Int.eq_ofNat_of_zero_le h
  rw [Int.toNat_natCast]; lia
theorem pick_upto (ys : List Value) {y : Int} (h0 : 0 ≤ y) : slicePick ys.toArray none (some y) none = (ys.take y.toNat).toArray := by
  have e : sliceBounds none (some y) none ys.toArray.size = (((0 : Nat) : Int), ((min y.toNat ys.toArray.size : Nat) : Int), 1) := by
    simp only [sliceBounds, Option.getD_none, show (1 : Int) > 0 by decide, if_true, if_neg (Int.not_lt.mpr h0)]
    rw [mn h0]; rfl
  rw [kmk_pick_nat _ e]
  show ((ys.drop 0).take (min y.toNat ys.toArray.size - 0)).toArray = _
  rw [List.drop_zero, Nat.sub_zero, List.size_toArray, kmk_take_min]
theorem pick_from' (ys : List Value) {x : Int} (h0 : 0 ≤ x) : slicePick ys.toArray (some x) none none = (ys.drop x.toNat).toArray := by
  have e : sliceBounds (some x) none none ys.toArray.size = (((min x.toNat ys.toArray.size : Nat) : Int), ((ys.toArray.size : Nat) : Int), 1) := by
    simp only [sliceBounds, Option.getD_none, show (1 : Int) > 0 by decide, if_true, if_neg (Int.not_lt.mpr h0)]
    rw [mn h0, Int.max_eq_right (Int.natCast_nonneg _)]
  rw [kmk_pick_nat _ e]
  show ((ys.drop (min x.toNat ys.toArray.size)).take (ys.toArray.size - min x.toNat ys.toArray.size)).toArray = _
  rw [List.size_toArray, kmk_drop_min, List.take_of_length_le (by rw [List.length_drop]; exact Nat.sub_le_sub_left (Nat.min_le_left _ _) _)]
theorem pick_run' (ys : List Value) {x y : Int} (h0 : 0 ≤ x) (h1 : 0 ≤ y) : slicePick ys.toArray (some x) (some y) none = ((ys.take y.toNat).drop x.toNat).toArray := by
  have e : sliceBounds (some x) (some y) none ys.toArray.size = (((min x.toNat ys.toArray.size : Nat) : Int), ((min y.toNat ys.toArray.size : Nat) : Int), 1) := by
    simp only [sliceBounds, Option.getD_none, show (1 : Int) > 0 by decide, if_true, if_neg (Int.not_lt.mpr h0), if_neg (Int.not_lt.mpr h1)]
    rw [mn h0, mn h1, Int.max_eq_right (Int.natCast_nonneg _), Int.max_eq_right (Int.natCast_nonneg _)]
  rw [kmk_pick_nat _ e]
  show ((ys.drop (min x.toNat ys.toArray.size)).take (min y.toNat ys.toArray.size - min x.toNat ys.toArray.size)).toArray = _
  rw [List.size_toArray, kmk_drop_min, List.drop_take]
  congr 1
  by_cases hx : x.toNat ≤ ys.length
  · by_cases hy : y.toNat ≤ ys.length
    · rw [Nat.min_eq_left hx, Nat.min_eq_left hy]
    · rw [Nat.min_eq_left hx, Nat.min_eq_right (by lia), List.take_of_length_le (by rw [List.length_drop]; lia), List.take_of_length_le (by rw [List.length_drop]; lia)]
  · rw [List.drop_of_length_le (by lia)]; simp
set_option tactic.hygienic true in
theorem cut_pick {lo hi : MV} {lv hv : Value} {xs : List MV} {ys : List Value} {K : List MV → Prop} (r : VRels T.sym h xs ys) (rl : VRel T.sym h lo lv) (rh : VRel T.sym h hi hv) (q : cutL lo hi xs K) :
    ∃ l u zs us, IsPart lv l ∧ IsPart hv u ∧ slicePick ys.toArray l u none = us.toArray ∧ VRels T.sym h zs us ∧ K zs := by
  rcases q with ⟨y, rfl, rfl, q1, q⟩ | ⟨x, rfl, rfl, q1, q⟩ | ⟨x, y, rfl, rfl, q1, q2, q⟩
  · obtain ⟨t, rfl⟩ := rh.int_inv
    obtain rfl := rl.none_inv
    exact ⟨none, some y, _, _, .none, .int _ _, pick_upto ys q1, r.take _, q⟩
  · obtain ⟨t, rfl⟩ := rl.int_inv
    obtain rfl := rh.none_inv
    exact ⟨some x, none, _, _, .int _ _, .none, pick_from' ys q1, r.drop _, q⟩
  · obtain ⟨t, rfl⟩ := rl.int_inv
    obtain ⟨t', rfl⟩ := rh.int_inv
    exact ⟨some x, some y, _, _, .int _ _, .int _ _, pick_run' ys q1 q2, (r.take _).drop _, q⟩
theorem ints_rel {vs : List Value} {ns : List Int} (r : IntsAre vs ns) : VRels T.sym h (ns.map MV.int) vs := by
  induction r with
  | nil => exact .nil
  | cons i t _ ih => exact .cons (.mk_int i t) ih
noncomputable def sliceObj (l u s : Value) : Obj := { cls := .type "slice", data := .fields #[l, u, s] }
set_option tactic.hygienic true in
theorem slice_sound (I : Inv cx fs own σ h) {o lo hi : MV} {ov lv hv : Value} {value : Expr} {la lb : Option Expr} {p : Pos} (ro : VRel T.sym h o ov) (rl : VRel T.sym h lo lv) (rh : VRel T.sym h hi hv) (q : sliceP o lo hi σ Q) :
    wpAny (model cx.prog cx.w) A (subscriptTail value (.Slice la lb none p) ov (.ref h.objs.size)) (Pst cx fs X own h (VQ (T := T) Q)) E (cx.mk' (h.push (sliceObj lv hv .none)) t) := by
  obtain ⟨I1, k1⟩ := I.push_any (sliceObj lv hv .none)
  have tk := I.tk0 k1
  have hs : ∀ o, subscripted (.Slice la lb none p) false o (.ref h.objs.size) = operate [.ref h.objs.size, o] (getItem o (.ref h.objs.size)) := fun _ => rfl
  have hsl : (h.push (sliceObj lv hv .none)).IsSliceOf h.objs.size lv hv .none := Heap.IsSliceOf.new ..
  have aux : ∀ (a : Addr) (ys : List Value) (xs : List MV), h.IsList a ys.toArray → VRels T.sym h xs ys → xs.length ≤ lineL → cutL lo hi xs (fun ys => newP (.list ys) σ Q) →
      wpAny (model cx.prog cx.w) A (subscriptTail value (.Slice la lb none p) (.ref a) (.ref h.objs.size)) (Pst cx fs X own h (VQ (T := T) Q)) E (cx.mk' (h.push (sliceObj lv hv .none)) t) := fun a ys xs g r hz q => by
    obtain ⟨l, u, zs, us, pl, pu, e, rz, q⟩ := cut_pick r rl rh q
    have g1 : (h.push (sliceObj lv hv .none)).IsList a ys.toArray := let ⟨o, e, c⟩ := g; ⟨o, Heap.get?_push_of_some _ e, c⟩
    refine tail_gen (s := cx.mk' (h.push (sliceObj lv hv .none)) t) g1.typeIs PySem.slot_list_getitem.lookup (wpAny_getItem_list_slice g1 hsl pl pu .none (by simp) ?_ ?_) (hs _)
    · rw [e]
      exact Pst.up (.refl ..) (k1.mono fun _ z => z.elim) (new_list (cx := cx) (X := X) (t := t) I1 (rz.tk tk) q)
    · rw [List.size_toArray, r.length, sizeLine_eq]; exact hz
  rcases q with ⟨xs, l, rfl, rfl, rfl, ⟨h1, h2, h3⟩, q⟩ | ⟨a, xs, rfl, hz, hs', q⟩
  · obtain ⟨a, ys, n, rfl, g, r⟩ := ro.tup_inv
    · obtain ⟨u, rfl⟩ := rl.int_inv
      rw [rh.none_inv] at hsl ⊢
      rw [rh.none_inv] at I1 k1 tk
      obtain ⟨k, rfl⟩ : ∃ k : Nat, l = k := ⟨l.toNat, by lia⟩
      have g1 := Heap.get?_push_of_some (sliceObj (.int k u) .none .none) g
      have hlen := r.length
      refine tail_gen (s := cx.mk' (h.push (sliceObj (.int k u) .none .none)) t) (isTup g1).typeIs slot_tuple_getitem.lookup (getItem_tuple_from (isTup g1) hsl (by lia) (by rw [List.size_toArray]; lia) ?_ ?_) rfl
      · have z := new_tup (cx := cx) (X := X) (t := t) I1 ((r.drop k).tk tk) q
        exact Pst.up (.refl ..) (k1.mono fun _ z => z.elim) z
      · rw [List.size_toArray, hlen, sizeLine_eq]; exact h3
  · obtain rfl := ro.ref_inv
    rcases hs' with hs' | ⟨ns, hs', rfl⟩
    · obtain ⟨oa, ys, n, g, r⟩ := I.objs a _ hs'
      exact aux a ys xs (isList g) r hz q
    · obtain ⟨vs, g, r⟩ := I.frz hs'
      exact aux a vs _ g (ints_rel r) hz q
theorem KvI.put {k : Int} {m : MV} {v : Value} (rv : VRel T.sym h m v) : ∀ {kvs : List (Int × MV)} {l : List (Int × Value)}, KvI T.sym h kvs l → (l.map (·.1)).Nodup → KvI T.sym h (putI k m kvs) (stored l k v)
  | [], _, r, _ => by
    obtain rfl := r
    exact ⟨v, [], by simp [stored], rv, rfl⟩
  | (j, m') :: kvs, _, r, nd => by
    obtain ⟨u, l', rfl, ru, r⟩ := r
    rw [List.map_cons, List.nodup_cons] at nd
    rw [putI_cons]
    by_cases z : j = k
    · subst z
      rw [if_pos rfl]
      refine ⟨v, l', ?_, rv, r⟩
      unfold stored
      rw [if_pos (by simp)]
      rw [List.map_cons, if_pos rfl]
      congr 1
      conv => rhs; rw [← List.map_id l']
      refine List.map_congr_left fun kv hm => ?_
      rw [if_neg fun e => nd.1 (List.mem_map.mpr ⟨kv, hm, e⟩)]; rfl
    · rw [if_neg z]
      have ih := r.put (k := k) rv nd.2
      refine ⟨u, stored l' k v, ?_, ru, ih⟩
      unfold stored
      rw [List.any_cons]
      simp only [z, decide_false, Bool.false_or]
      by_cases w : (l'.any fun kv => decide (kv.1 = k)) = true
      · rw [if_pos w, if_pos w, List.map_cons, if_neg z]
      · rw [if_neg w, if_neg w]; rfl
theorem KvI.length : ∀ {kvs : List (Int × MV)} {l : List (Int × Value)}, KvI T.sym h kvs l → l.length = kvs.length
  | [], _, r => by obtain rfl := r; rfl
  | _ :: _, _, r => by
    obtain ⟨u, l', rfl, _, r⟩ := r
    rw [List.length_cons, List.length_cons, r.length]
theorem KvS.length : ∀ {kvs : List (Nat × MV)} {l : List (Str × Value)}, KvS T.sym h kvs l → l.length = kvs.length
  | [], _, r => by obtain rfl := r; rfl
  | _ :: _, _, r => by
    obtain ⟨x, u, l', _, rfl, _, r⟩ := r
    rw [List.length_cons, List.length_cons, r.length]
theorem KvS.put (cx : Cx T) {n : Nat} {x : Str} (ex : T.sym[n]? = some x) {m : MV} {v : Value} (rv : VRel T.sym h m v) : ∀ {kvs : List (Nat × MV)} {l : List (Str × Value)}, KvS T.sym h kvs l → (l.map (·.1)).Nodup → KvS T.sym h (putN n m kvs) (stored l x v)
  | [], _, r, _ => by
    obtain rfl := r
    exact ⟨x, v, [], ex, by simp [stored], rv, rfl⟩
  | (j, m') :: kvs, _, r, nd => by
    obtain ⟨y, u, l', ey, rfl, ru, r⟩ := r
    rw [List.map_cons, List.nodup_cons] at nd
    rw [putN_cons]
    by_cases z : j = n
    · subst z
      rw [ex] at ey; cases ey
      rw [if_pos rfl]
      refine ⟨x, v, l', ex, ?_, rv, r⟩
      unfold stored
      rw [if_pos (by simp)]
      rw [List.map_cons, if_pos rfl]
      congr 1
      conv => rhs; rw [← List.map_id l']
      refine List.map_congr_left fun kv hm => ?_
      rw [if_neg fun e => nd.1 (List.mem_map.mpr ⟨kv, hm, e⟩)]; rfl
    · rw [if_neg z]
      have z' : y ≠ x := fun w => by subst w; exact z (sym_inj cx ey ex)
      have ih := r.put cx ex rv nd.2
      refine ⟨y, u, stored l' x v, ey, ?_, ru, ih⟩
      unfold stored
      rw [List.any_cons]
      simp only [z', decide_false, Bool.false_or]
      by_cases w : (l'.any fun kv => decide (kv.1 = x)) = true
      · rw [if_pos w, if_pos w, List.map_cons, if_neg z']
      · rw [if_neg w, if_neg w]; rfl
set_option tactic.hygienic true in
theorem setItem_sound (I : Inv cx fs own σ h) {o i m : MV} {ov iv v : Value} {K : Hp → Prop} (ro : VRel T.sym h o ov) (ri : VRel T.sym h i iv) (rv : VRel T.sym h m v) (q : setItemP o i m σ K) :
    wpAny (model cx.prog cx.w) A (setItem ov iv v) (Pst cx fs X own h (UQ K)) E (cx.mk' h t) := by
  obtain ⟨a, rfl, q⟩ := q
  obtain rfl := ro.ref_inv
  · rcases q with ⟨j, xs, rfl, hs, h0, hm, hl, q⟩ | ⟨j, kvs, rfl, hs, hz, q⟩ | ⟨n, kvs, rfl, hs, hz, q⟩
    · obtain ⟨u, rfl⟩ := ri.int_inv
      obtain ⟨oa, ys, n, g, r⟩ := I.objs a _ hs
      have hlen := r.length
      refine ki_setAt (s := cx.mk' h t) g h0 (by lia) (by rw [List.size_toArray, hlen]; exact hl) ?_
      have g' := Heap.get?_update_self (Obj.mapSeq (·.setIfInBounds j.toNat v)) g rfl
      have oth : ∀ b, b ≠ a → (h.update a (Obj.mapSeq (·.setIfInBounds j.toNat v))).get? b = h.get? b := fun b nb => Heap.get?_update_other _ _ (Ne.symm nb)
      have own1 : ∀ b, own b = some a → b = a ∨ b ≠ a := fun b _ => Decidable.em _
      obtain ⟨I', k⟩ := I.store (h' := h.update a (Obj.mapSeq (·.setIfInBounds j.toNat v))) (mo' := .list (xs.set j.toNat m)) hs
        (fun b o e1 e2 => (oth b fun z => by subst z; exact e2 oa).trans e1)
        (fun b o eb gg => by
          by_cases z : b = a
          · subst z; rw [g] at gg; cases gg; exact ⟨_, g', rfl⟩
          · exact ⟨o, (oth b z).trans gg, rfl⟩)
        (fun tk => ⟨ys.set j.toNat v, _, by
          rw [g']
          show some (listOf (ys.toArray.setIfInBounds j.toNat v) _) = _
          rw [List.setIfInBounds_toArray], (r.tk tk).set _ (rv.tk tk)⟩)
      exact ⟨_, t, _, _, rfl, I', .refl .., k.mono fun _ z => z.elim, q⟩
    · obtain ⟨u, rfl⟩ := ri.int_inv
      obtain ⟨oa, hsys, l, D, r⟩ := I.objs a _ hs
      have hD := D
      obtain ⟨oo, es, ep, g, ex0, _, _, _, nd⟩ := hD
      refine wpAny_setItem_pairs (s := cx.mk' h t) (intKind_is cx.prog cx.w j u) D (fun h' D' sb => ?_) (by rw [r.length, sizeLine_eq]; lia)
      have D2 := D'
      obtain ⟨oo', es', ep', g', ex', _⟩ := D2
      obtain ⟨I', k⟩ := I.store (h' := h') (mo' := .dI (putI j m kvs)) hs
        (fun b o e1 e2 => (sb.2 b fun z => by subst z; exact e2 oa).trans e1)
        (fun b o eb gg => by
          by_cases z : b = a
          · subst z; rw [g] at gg; cases gg; exact ⟨_, g', by rw [ex'.1, ex0.1]⟩
          · exact ⟨o, (sb.2 b z).trans gg, rfl⟩)
        (fun tk => ⟨hsys, _, D', (r.tk tk).put (rv.tk tk) nd⟩)
      exact ⟨_, t + 1, _, _, rfl, I', .refl .., k.mono fun _ z => z.elim, q⟩
    · obtain ⟨x, u, ex, rfl⟩ := ri.sym_inv
      obtain ⟨oa, l, D, r⟩ := I.objs a _ hs
      have hD := D
      obtain ⟨oo, es, ep, g, ex0, _, _, _, nd⟩ := hD
      refine wpAny_setItem_pairs (s := cx.mk' h t) (strKind_is cx.prog cx.w x u) D (fun h' D' sb => ?_) (by rw [r.length, sizeLine_eq]; lia)
      have D2 := D'
      obtain ⟨oo', es', ep', g', ex', _⟩ := D2
      obtain ⟨I', k⟩ := I.store (h' := h') (mo' := .dS (putN n m kvs)) hs
        (fun b o e1 e2 => (sb.2 b fun z => by subst z; exact e2 oa).trans e1)
        (fun b o eb gg => by
          by_cases z : b = a
          · subst z; rw [g] at gg; cases gg; exact ⟨_, g', by rw [ex'.1, ex0.1]⟩
          · exact ⟨o, (sb.2 b z).trans gg, rfl⟩)
        (fun tk => ⟨_, D', (r.tk tk).put cx ex (rv.tk tk) nd⟩)
      exact ⟨_, t + 1, _, _, rfl, I', .refl .., k.mono fun _ z => z.elim, q⟩
end
end Mine
end
section
open PySem PySem.W PyProof.Rows PySem.Builtin.ObjectAttr
set_option maxRecDepth 20000
namespace Mine
noncomputable abbrev Sc := List (Str × Nat)
noncomputable abbrev Nm := List (Str × NameKind)
structure EStat (env : Env) (nm : Nm) : Prop where
  names : env.scope.names = nm
  kind : env.scope.kind = .function
  globals : env.globals = mainGlobals
  builtins : env.builtins = builtinsNs
section
variable {T : Tab} (cx : Cx T)
structure ERel (env : Env) (sc : Sc) (loc : Loc) (own : Addr → Option Addr) (h : Heap) : Prop where
  ns : ∃ m, h.Ns env.locals m ∧
    ∀ x i mv, sc.lookup x = some i → loc[i]? = some (some mv) → env.kindOf x = some .local → ∃ v, m x = some v ∧ VRel T.sym h mv v
  ownL : own env.locals = none
  baseL : cx.base.get? env.locals = none
  cells : ∀ x i, sc.lookup x = some i → (env.kindOf x = some .cell ∨ env.kindOf x = some .free) → ∃ c o vo, env.cells.lookup x = some c ∧ h.get? c = some o ∧ o.data = .cell vo ∧ own c = none ∧ cx.base.get? c = none ∧
    c ≠ env.locals ∧ ∀ mv, loc[i]? = some (some mv) → ∃ v, vo = some v ∧ VRel T.sym h mv v
  inj : ∀ x y c, env.cells.lookup x = some c → env.cells.lookup y = some c → x = y
  scInj : ∀ x y i, sc.lookup x = some i → sc.lookup y = some i → x = y
noncomputable def frameX (env : Env) (sc : Sc) (a : Addr) : Prop := a = env.locals ∨ ∃ x i, sc.lookup x = some i ∧ env.cells.lookup x = some a ∧ env.kindOf x = some .cell
end
section
variable {T : Tab} {cx : Cx T} {fs : List Env} {own own' : Addr → Option Addr} {σ : Hp} {h h' : Heap} {A : Around} {t : Nat} {E : Value → Shared → Prop} {Q : MV → Hp → Prop} {X : Addr → Prop} {env : Env} {sc : Sc} {nm : Nm} {loc : Loc}
theorem ERel.keep (R : ERel cx env sc loc own h) (x : OwnExt own own' h) (k : Keep fs own noX h h') (tk : TK h h') : ERel cx env sc loc own' h' := by
  obtain ⟨⟨m, ns, l⟩, oL, bL, cells, inj, scInj⟩ := R
  refine ⟨⟨m, k.ns ns oL (fun z => z), fun x i mv h1 h2 h3 => ?_⟩, ?_, bL, fun x i h1 h2 => ?_, inj, scInj⟩
  · obtain ⟨v, h4, h5⟩ := l x i mv h1 h2 h3
    exact ⟨v, h4, h5.tk tk⟩
  · obtain ⟨o, _, _, e, _⟩ := ns
    exact x.old e oL
  · obtain ⟨c, o, vo, c1, c2, c3, c4, c5, c6, c8⟩ := cells x i h1 h2
    obtain ⟨o', e', d', cc'⟩ := k.data c2 c4 (fun z => z)
    refine ⟨c, o', vo, c1, e', d'.trans c3, OwnExt.old ‹_› c2 c4, c5, c6, fun mv hm => ?_⟩
    obtain ⟨v, h4, h5⟩ := c8 mv hm
    exact ⟨v, h4, h5.tk tk⟩
theorem name_loc {M : Model} {R : Value → Shared → Prop} (S : EStat env nm) (W : ERel cx env sc loc own h) {x : Str} {i : Nat} {mv : MV} {pos : Pos} (hs : sc.lookup x = some i) (hk : env.kindOf x = some .local ∨ env.kindOf x = some .cell ∨ env.kindOf x = some .free)
    (hd : (x == ("__debug__" : Str)) = false) (hc : (x == ("__classdict__" : Str)) = false) (hl : loc[i]? = some (some mv)) (k : ∀ v, VRel T.sym h mv v → R v (cx.mk' h t)) : wpAny M A (eval (.Name x pos) env) R E (cx.mk' h t) := by
  refine wpAny_Name ?_ hd
  rcases hk with hk | hk
  · obtain ⟨m, ns, l⟩ := W.ns
    obtain ⟨v, h4, h5⟩ := l x i mv hs hl hk
    exact wpAny_loadName_local S.kind hk ns h4 (k v h5)
  · obtain ⟨c, o, vo, c1, c2, c3, c4, c5, c6, c8⟩ := W.cells x i hs hk
    obtain ⟨v, rfl, h5⟩ := c8 mv hl
    rcases hk with hk | hk
    · exact wpAny_loadName_cell S.kind hk c1 ⟨o, c2, c3⟩ (k v h5)
    · exact wpAny_loadName_free S.kind hk c1 ⟨o, c2, c3⟩ (k v h5) hc
noncomputable def globIs (K : Frag) (x : Str) (v : Value) : Bool := (nsIn K mainGlobals x == some (some v)) || (nsIn K mainGlobals x == some none && bootBuiltins x == some v && x != "__name__")
theorem name_glob {M : Model} {R : Value → Shared → Prop} (I : Inv cx fs own σ h) (S : EStat env nm) {x : Str} {v : Value} {pos : Pos} (hk : env.kindOf x = some .globalImplicit) (hd : (x == ("__debug__" : Str)) = false)
    (hg : globIs cx.K x v = true) (k : R v (cx.mk' h t)) : wpAny M A (eval (.Name x pos) env) R E (cx.mk' h t) := by
  unfold globIs at hg
  rw [Bool.or_eq_true] at hg
  have g := I.top.g
  rw [← S.globals] at g
  rcases hg with hg | hg
  · have e := mg_of I.K I.top.g (beq_iff_eq.mp hg)
    exact Calls.Name_function_global S.kind hk (Calls.loadGlobal_global (env := env) g e k) hd
  · rw [Bool.and_eq_true, Bool.and_eq_true] at hg
    have e := mg_none_of I.K I.top.g (beq_iff_eq.mp hg.1.1)
    have b := I.top.b
    rw [← S.builtins] at b
    have hv := (I.top.builtins x (bne_iff_ne.mp hg.2)).trans (beq_iff_eq.mp hg.1.2)
    exact Calls.Name_function_global S.kind hk (Calls.loadGlobal_builtin (env := env) g e b hv k) hd
set_option tactic.hygienic true in
theorem truth_sound {R : Bool → Shared → Prop} {m : MV} {v : Value} {P : Bool → Prop} (r : VRel T.sym h m v) (q : truthP m P) (k : ∀ b t', P b → R b (cx.mk' h t')) : wpAny (model cx.prog cx.w) A (truthy v) R E (cx.mk' h t) := by
  cases m with
  | bool b => obtain rfl := r.bool_inv; exact wpAny_truthy_bool (k _ _ q)
  | int i =>
    obtain ⟨t', rfl⟩ := r.int_inv
    refine PyProof.Rows.truthy_int (k _ _ ?_)
    have e : (i != 0) = decide (i ≠ 0) := by by_cases z : i = 0 <;> simp [z]
    rw [e]; exact q
  | none => obtain rfl := r.none_inv; exact PyProof.Rows.truthy_none (k _ _ q)
  | _ => exact False.elim q
end
end Mine
end
section
open PySem PySem.W PyProof.Rows PySem.Builtin.ObjectAttr
set_option maxRecDepth 20000
namespace Mine
noncomputable def localKind (k : Option NameKind) : Bool := k == some .local || k == some .cell || k == some .free
noncomputable def notWord (x : Str) : Bool := !(x == ("__debug__" : Str)) && !(x == ("__classdict__" : Str))
noncomputable def exE {α : Type} (e : Expr) (d : α) (xBoolOp : List Expr → α := fun _ => d) (xBinOp : Expr → Operator → Expr → α := fun _ _ _ => d) (xUnaryOp : Expr → α := fun _ => d) (xIfExp : Expr → Expr → Expr → α := fun _ _ _ => d) (xSet : α := d) (xListComp : Expr → List Comprehension → Scope → α := fun _ _ _ => d) (xSetComp : α := d) (xDictComp : α := d) (xCompare : Expr → List CmpOp → List Expr → α := fun _ _ _ => d) (xCall : Expr → List Expr → List Keyword → α := fun _ _ _ => d) (xConstant : Const → α := fun _ => d) (xAttribute : Expr → Str → α := fun _ _ => d) (xSubscript : Expr → Expr → α := fun _ _ => d) (xName : Str → α := fun _ => d) (xList : List Expr → α := fun _ => d) (xTuple : List Expr → α := fun _ => d) (xSlice : Option Expr → Option Expr → Option Expr → α := fun _ _ _ => d) : α := @Expr.casesOn (fun _ => α) e (fun _ a1 _ => xBoolOp a1) (fun _ _ _ => d) (fun a0 a1 a2 _ => xBinOp a0 a1 a2) (fun _ a1 _ => xUnaryOp a1) (fun _ _ _ _ => d) (fun a0 a1 a2 _ => xIfExp a0 a1 a2) (fun _ _ _ => d) (fun _ _ _ => xSet) (fun a0 a1 a2 _ => xListComp a0 a1 a2) (fun _ _ _ _ => xSetComp) (fun _ _ _ _ _ => xDictComp) (fun _ _ _ _ => d) (fun _ _ => d) (fun _ _ => d) (fun _ _ => d) (fun a0 a1 a2 _ => xCompare a0 a1 a2) (fun a0 a1 a2 _ => xCall a0 a1 a2) (fun _ _ _ _ => d) (fun _ _ => d) (fun a0 _ _ => xConstant a0) (fun a0 a1 _ => xAttribute a0 a1) (fun a0 a1 _ => xSubscript a0 a1) (fun _ _ => d) (fun a0 _ => xName a0) (fun a0 _ => xList a0) (fun a0 _ _ => xTuple a0) (fun a0 a1 a2 _ => xSlice a0 a1 a2)
noncomputable def isNil {α : Type} (l : List α) : Bool := match l with | [] => true | _ :: _ => false
noncomputable def isName (e : Expr) : Bool := exE e false (xName := fun _ => true)
noncomputable def isNoArgs (e : Expr) : Bool := exE e false (xCall := fun g es kw => isName g && isNil es && isNil kw)
noncomputable def isSet (e : Expr) : Bool := exE e false (xSet := true)
noncomputable def compNm (names nm : Nm) : Nm := names.map fun (n, k) => if (k == .free && nm.lookup n == some .cell) then (n, .cell) else (n, k)
noncomputable def compSc (names : Nm) (tn : List Str) (ti : List Nat) (sc : Sc) : Sc := tn.zip ti ++ names.filterMap fun (n, k) => if k == .free then (sc.lookup n).map fun i => (n, i) else none
noncomputable def nameE (e : Expr) : Option Str := exE e none (xName := fun x => some x)
theorem nameE_inv {e : Expr} {x : Str} (h : nameE e = some x) : ∃ p, e = .Name x p := by
  cases e with
  | Name y p => cases h; exact ⟨p, rfl⟩
  | _ => exact ns h
noncomputable def namesOf : List Expr → Option (List Str)
  | [] => some []
  | e :: r => (nameE e).bind fun x => (namesOf r).map fun l => x :: l
theorem namesOf_nil {tn : List Str} (h : namesOf [] = some tn) : tn = [] := (Option.some.inj h).symm
theorem namesOf_cons {e : Expr} {r : List Expr} {tn : List Str} (h : namesOf (e :: r) = some tn) : ∃ x p l, e = .Name x p ∧ namesOf r = some l ∧ tn = x :: l := by
  obtain ⟨x, e1, h⟩ := Option.bind_eq_some_iff.mp h
  obtain ⟨l, e2, rfl⟩ := Option.map_eq_some_iff.mp h
  obtain ⟨p, rfl⟩ := nameE_inv e1
  exact ⟨x, p, l, rfl, e2, rfl⟩
noncomputable def targetNames (e : Expr) : Option (List Str × Bool) := exE e none (xName := fun x => some ([x], true)) (xTuple := fun es => (namesOf es).map fun l => (l, false))
noncomputable def compOk (names nm : Nm) (tn : List Str) (ti : List Nat) (sc : Sc) : Bool :=
  tn.length == ti.length && names.all (fun x => x.2 != .cell && (x.2 != .local || names.lookup x.1 == some .local)) &&
  names.all (fun x => x.2 != .free || ((nm.lookup x.1 == some .cell || nm.lookup x.1 == some .free) && (sc.lookup x.1).isSome)) &&
  decide ((compSc names tn ti sc).map (·.2)).Nodup && decide ti.Nodup &&
  (compSc names tn ti sc).all (fun x => (ti.contains x.2 && names.lookup x.1 == some .local) || (names.any (fun y => y.1 == x.1 && y.2 == .free) && names.lookup x.1 == some .free && sc.lookup x.1 == some x.2)) &&
  (tn.zip ti).all fun x => (compSc names tn ti sc).lookup x.1 == some x.2 && names.lookup x.1 == some .local
noncomputable def tagE : Expr → Nat
  | .Constant k _ _ => match k with | .none => 1 | .bool _ => 2 | .int _ => 3 | .str _ => 4 | _ => 0
  | .Name _ _ => 5
  | .Attribute _ _ _ => 6
  | .Subscript _ _ _ => 7
  | .Slice _ _ _ _ => 8
  | .BinOp _ _ _ _ => 9
  | .UnaryOp o _ _ => match o with | .Not => 10 | .USub => 11 | _ => 0
  | .BoolOp o _ _ => match o with | .And => 12 | .Or => 13
  | .Compare _ os rs _ => match os with | [_] => (match rs with | [_] => 14 | _ => 0) | _ => 0
  | .IfExp _ _ _ _ => 15
  | .Tuple _ _ _ => 16
  | .List _ _ => 17
  | .Dict ks vs _ => match ks with | [] => (match vs with | [] => 18 | _ :: _ => 0) | _ :: _ => 0
  | .Call _ _ kw _ => match kw with | [] => 19 | _ :: _ => 0
  | .ListComp _ _ _ _ => 20
  | _ => 0
noncomputable def PE : List (Expr → Prop) := [fun _ => True, fun e => ∃ p q, e = .Constant .none p q, fun e => ∃ b p q, e = .Constant (.bool b) p q, fun e => ∃ b p q, e = .Constant (.int b) p q, fun e => ∃ b p q, e = .Constant (.str b) p q,
  fun e => ∃ x p, e = .Name x p, fun e => ∃ v a p, e = .Attribute v a p, fun e => ∃ v s p, e = .Subscript v s p, fun e => ∃ l u o p, e = .Slice l u o p, fun e => ∃ l o r p, e = .BinOp l o r p, fun e => ∃ x p, e = .UnaryOp .Not x p, fun e => ∃ x p, e = .UnaryOp .USub x p,
  fun e => ∃ x p, e = .BoolOp .And x p, fun e => ∃ x p, e = .BoolOp .Or x p, fun e => ∃ l o r p, e = .Compare l [o] [r] p, fun e => ∃ t u v p, e = .IfExp t u v p, fun e => ∃ es q p, e = .Tuple es q p, fun e => ∃ es p, e = .List es p, fun e => ∃ p, e = .Dict [] [] p,
  fun e => ∃ g es p, e = .Call g es [] p, fun e => ∃ el gs s p, e = .ListComp el gs s p]
noncomputable def PEat : Nat → List (Expr → Prop) → Expr → Prop
  | _, [], _ => True
  | 0, p :: _, e => p e
  | n + 1, _ :: l, e => PEat n l e
theorem tagE_spec (e : Expr) : PEat (tagE e) PE e := by
  cases e with
  | Constant k p q => cases k with
    | none => exact Exists.intro p (Exists.intro q rfl)
    | bool b => exact Exists.intro b (Exists.intro p (Exists.intro q rfl))
    | int b => exact Exists.intro b (Exists.intro p (Exists.intro q rfl))
    | str b => exact Exists.intro b (Exists.intro p (Exists.intro q rfl))
    | _ => exact trivial
  | Name x p => exact Exists.intro x (Exists.intro p rfl)
  | Attribute v a p => exact Exists.intro v (Exists.intro a (Exists.intro p rfl))
  | Subscript v a p => exact Exists.intro v (Exists.intro a (Exists.intro p rfl))
  | Slice l u o p => exact Exists.intro l (Exists.intro u (Exists.intro o (Exists.intro p rfl)))
  | BinOp l o r p => exact Exists.intro l (Exists.intro o (Exists.intro r (Exists.intro p rfl)))
  | UnaryOp o x p => cases o with
    | Not => exact Exists.intro x (Exists.intro p rfl)
    | USub => exact Exists.intro x (Exists.intro p rfl)
    | _ => exact trivial
  | BoolOp o x p => cases o with
    | And => exact Exists.intro x (Exists.intro p rfl)
    | Or => exact Exists.intro x (Exists.intro p rfl)
  | Compare l os rs p => cases os with
    | nil => exact trivial
    | cons o os => cases os with
      | cons _ _ => exact trivial
      | nil => cases rs with
        | nil => exact trivial
        | cons r rs => cases rs with
          | nil => exact Exists.intro l (Exists.intro o (Exists.intro r (Exists.intro p rfl)))
          | cons _ _ => exact trivial
  | IfExp t u v p => exact Exists.intro t (Exists.intro u (Exists.intro v (Exists.intro p rfl)))
  | Tuple es q p => exact Exists.intro es (Exists.intro q (Exists.intro p rfl))
  | List es p => exact Exists.intro es (Exists.intro p rfl)
  | Dict ks vs p => cases ks with
    | cons _ _ => exact trivial
    | nil => cases vs with
      | nil => exact Exists.intro p rfl
      | cons _ _ => exact trivial
  | Call g es kw p => cases kw with
    | nil => exact Exists.intro g (Exists.intro es (Exists.intro p rfl))
    | cons _ _ => exact trivial
  | ListComp el gs s p => exact Exists.intro el (Exists.intro gs (Exists.intro s (Exists.intro p rfl)))
  | _ => exact trivial
noncomputable def sub0 (e : Expr) : Expr := exE e e (xBinOp := fun l _ _ => l) (xUnaryOp := fun x => x) (xIfExp := fun t _ _ => t) (xListComp := fun el _ _ => el) (xCompare := fun l _ _ => l) (xCall := fun g _ _ => g) (xAttribute := fun v _ => v) (xSubscript := fun v _ => v)
noncomputable def headE (l : List Expr) (e : Expr) : Expr := match l with | x :: _ => x | [] => e
noncomputable def sub1 (e : Expr) : Expr := exE e e (xBinOp := fun _ _ r => r) (xIfExp := fun _ x _ => x) (xCompare := fun l _ rs => headE rs l) (xSubscript := fun _ s => s)
noncomputable def sub2 (e : Expr) : Expr := exE e e (xIfExp := fun _ _ x => x)
noncomputable def subs (e : Expr) : List Expr := exE e [] (xBoolOp := fun x => x) (xCall := fun _ es _ => es) (xList := fun x => x) (xTuple := fun x => x)
noncomputable def strC (k : Const) : Str := match k with | .str x => x | _ => ""
noncomputable def strE (e : Expr) : Str := exE e "" (xConstant := fun k => strC k) (xAttribute := fun _ x => x) (xName := fun x => x)
noncomputable def opE (e : Expr) : Operator := exE e .Add (xBinOp := fun _ o _ => o)
noncomputable def headO (l : List CmpOp) : CmpOp := match l with | o :: _ => o | [] => .Eq
noncomputable def cmpE (e : Expr) : CmpOp := exE e .Eq (xCompare := fun _ os _ => headO os)
noncomputable def constE (e : Expr) : Const := exE e .none (xConstant := fun x => x)
noncomputable def lowE (e : Expr) : Option Expr := exE e none (xSlice := fun l _ _ => l)
noncomputable def upE (e : Expr) : Option Expr := exE e none (xSlice := fun _ u _ => u)
noncomputable def stepE (e : Expr) : Option Expr := exE e none (xSlice := fun _ _ o => o)
noncomputable def gensE (e : Expr) : List Comprehension := exE e [] (xListComp := fun _ gs _ => gs)
noncomputable def genE (e : Expr) : Comprehension := match gensE e with | g :: _ => g | [] => ⟨e, e, [], 0⟩
noncomputable def scopeE (e : Expr) : Scope := exE e default (xListComp := fun _ _ s => s)
noncomputable def isN : ME → Bool
  | .none => true | _ => false
section
variable (K : Frag) (sy : List Str)
noncomputable def okCon (f : ME) : Bool := match f with | .con v => callOk K v | _ => false
noncomputable def oneL {α : Type} (l : List α) : Bool := match l with | [_] => true | _ => false
noncomputable def rangeE (f : Expr → Bool) (nm : Nm) (e : Expr) : Bool := Nat.beq (tagE e) 19 && (Nat.beq (tagE (sub0 e)) 5 && (oneL (subs e) && (nm.lookup (strE (sub0 e)) == some .globalImplicit && !(strE (sub0 e) == ("__debug__" : Str)) && globIs K (strE (sub0 e)) (.type "range") && f (headE (subs e) e))))
noncomputable def optE (f : Expr → Bool) (m : ME) (o : Option Expr) : Bool := match o with | some e => f e | none => isN m
mutual
noncomputable def chkE : Nm → Sc → ME → Expr → Bool
  | _, _, .none, e => Nat.beq (tagE e) 1 && true
  | _, _, .bool b, e => Nat.beq (tagE e) 2 && (match constE e with | .bool c => b == c | _ => false)
  | _, _, .int i, e => Nat.beq (tagE e) 3 && (match constE e with | .int c => i == c | _ => false)
  | _, _, .sym n, e => Nat.beq (tagE e) 4 && (sy[n]? == some (strE e))
  | nm, sc, .loc i, e => Nat.beq (tagE e) 5 && (sc.lookup (strE e) == some i && localKind (nm.lookup (strE e)) && notWord (strE e))
  | nm, _, .con v, e => Nat.beq (tagE e) 5 && (nm.lookup (strE e) == some .globalImplicit && !(strE e == ("__debug__" : Str)) && globIs K (strE e) v && handedIn v)
  | nm, _, .gint i, e => Nat.beq (tagE e) 5 && (nm.lookup (strE e) == some .globalImplicit && !(strE e == ("__debug__" : Str)) && (match nsIn K mainGlobals (strE e) with | some (some (.int j _)) => i == j | _ => false))
  | nm, sc, .attr m n, e => Nat.beq (tagE e) 6 && (sy[n]? == some (strE e) && !isNoArgs (sub0 e) && chkE nm sc m (sub0 e))
  | nm, sc, .item a i, e => Nat.beq (tagE e) 7 && (chkE nm sc a (sub0 e) && chkE nm sc i (sub1 e))
  | nm, sc, .slice a lo hi, e => Nat.beq (tagE e) 7 && (Nat.beq (tagE (sub1 e)) 8 && ((stepE (sub1 e)).isNone && (chkE nm sc a (sub0 e) && optE (chkE nm sc lo) lo (lowE (sub1 e)) && optE (chkE nm sc hi) hi (upE (sub1 e)))))
  | nm, sc, .bin op a b, e => Nat.beq (tagE e) 9 && (op == opE e && chkE nm sc a (sub0 e) && chkE nm sc b (sub1 e))
  | nm, sc, .not a, e => Nat.beq (tagE e) 10 && chkE nm sc a (sub0 e)
  | nm, sc, .neg a, e => Nat.beq (tagE e) 11 && chkE nm sc a (sub0 e)
  | nm, sc, .and ms, e => Nat.beq (tagE e) 12 && chkEs nm sc ms (subs e)
  | nm, sc, .or ms, e => Nat.beq (tagE e) 13 && chkEs nm sc ms (subs e)
  | nm, sc, .cmp op a b, e => Nat.beq (tagE e) 14 && (op == cmpE e && chkE nm sc a (sub0 e) && chkE nm sc b (sub1 e))
  | nm, sc, .ite c a b, e => Nat.beq (tagE e) 15 && (chkE nm sc c (sub0 e) && chkE nm sc a (sub1 e) && chkE nm sc b (sub2 e))
  | nm, sc, .tup ms, e => Nat.beq (tagE e) 16 && (chkEs nm sc ms (subs e) && decide (ms.length ≤ 30))
  | nm, sc, .list ms, e => Nat.beq (tagE e) 17 && (chkEs nm sc ms (subs e) && decide (ms.length ≤ 30))
  | _, _, .dI, e => Nat.beq (tagE e) 18 && true
  | _, _, .dS, e => Nat.beq (tagE e) 18 && true
  | nm, sc, .call f ms, e => Nat.beq (tagE e) 19 && (Nat.beq (tagE (sub0 e)) 5 && (okCon K f && chkE nm sc f (sub0 e) && chkEs nm sc ms (subs e)))
  | nm, sc, .meth o n ms, e => Nat.beq (tagE e) 19 && (Nat.beq (tagE (sub0 e)) 6 && (sy[n]? == some (strE (sub0 e)) && !isNoArgs (sub0 (sub0 e)) && (sub0 e).pos.endLine == e.pos.line && decide ((subs e).length < 30) && chkE nm sc o (sub0 (sub0 e)) && chkEs nm sc ms (subs e)))
  | nm, sc, .comp m ti one k e1 e2 conds, e => Nat.beq (tagE e) 20 && (oneL (gensE e) && (match targetNames (genE e).target with
      | some (tn, one') => (genE e).is_async == 0 && one == one' && (scopeE e).kind == .function && compOk (scopeE e).names nm tn ti sc && !isSet (genE e).iter &&
        chkE (compNm (scopeE e).names nm) (compSc (scopeE e).names tn ti sc) m (sub0 e) && chkEs (compNm (scopeE e).names nm) (compSc (scopeE e).names tn ti sc) conds (genE e).ifs &&
        (match k with
          | .exp => isN e2 && chkE nm sc e1 (genE e).iter
          | .range => isN e2 && rangeE K (chkE nm sc e1) nm (genE e).iter)
      | none => false))
noncomputable def chkEs : Nm → Sc → List ME → List Expr → Bool
  | _, _, [], es => match es with | [] => true | _ :: _ => false
  | nm, sc, m :: ms, es => match es with | e :: es => chkE nm sc m e && chkEs nm sc ms es | [] => false
end
noncomputable def chkR (nm : Nm) (sc : Sc) (m : ME) (e : Expr) : Bool := rangeE K (chkE K sy nm sc m) nm e
noncomputable def chkO (nm : Nm) (sc : Sc) (m : ME) (o : Option Expr) : Bool := optE (chkE K sy nm sc m) m o
end
end Mine
end
section
open PySem PySem.W PyProof.Rows PySem.Builtin.ObjectAttr
set_option maxRecDepth 20000
namespace Mine
/-! what the checker's answer says of a text, one constructor at a time -/
section
variable {K : Frag} {sy : List Str} {nm : Nm} {sc : Sc} {e : Expr}
theorem tgE (n : Nat) {x : Bool} (c : (Nat.beq (tagE e) n && x) = true) : PEat n PE e ∧ x = true :=
  ⟨Nat.eq_of_beq_eq_true (Bool.and_eq_true_iff.mp c).1 ▸ tagE_spec e, (Bool.and_eq_true_iff.mp c).2⟩
theorem one_inv {α : Type} {l : List α} (c : oneL l = true) : ∃ y, l = [y] := by
  cases l with
  | nil => exact (Bool.false_ne_true c).elim
  | cons y ys => cases ys with
    | nil => exact ⟨y, rfl⟩
    | cons _ _ => exact (Bool.false_ne_true c).elim
theorem iE_none (c : chkE K sy nm sc .none e = true) : ∃ p q, e = .Constant .none p q := (tgE 1 c).1
theorem iE_bool {b : Bool} (c : chkE K sy nm sc (.bool b) e = true) : ∃ p q, e = .Constant (.bool b) p q := by
  obtain ⟨⟨x, p, q, rfl⟩, c⟩ := tgE 2 c
  exact ⟨p, q, beq_iff_eq.mp c ▸ rfl⟩
theorem iE_int {b : Int} (c : chkE K sy nm sc (.int b) e = true) : ∃ p q, e = .Constant (.int b) p q := by
  obtain ⟨⟨x, p, q, rfl⟩, c⟩ := tgE 3 c
  exact ⟨p, q, beq_iff_eq.mp c ▸ rfl⟩
theorem iE_sym {n : Nat} (c : chkE K sy nm sc (.sym n) e = true) : ∃ x p q, e = .Constant (.str x) p q ∧ (sy[n]? == some x) = true := by
  obtain ⟨⟨x, p, q, rfl⟩, c⟩ := tgE 4 c
  exact ⟨x, p, q, rfl, c⟩
theorem iE_loc {i : Nat} (c : chkE K sy nm sc (.loc i) e = true) : ∃ x p, e = .Name x p ∧ (sc.lookup x == some i && localKind (nm.lookup x) && notWord x) = true := by
  obtain ⟨⟨x, p, rfl⟩, c⟩ := tgE 5 c
  exact ⟨x, p, rfl, c⟩
theorem iE_con {v : Value} (c : chkE K sy nm sc (.con v) e = true) : ∃ x p, e = .Name x p ∧ (nm.lookup x == some .globalImplicit && !(x == ("__debug__" : Str)) && globIs K x v && handedIn v) = true := by
  obtain ⟨⟨x, p, rfl⟩, c⟩ := tgE 5 c
  exact ⟨x, p, rfl, c⟩
theorem iE_attr {m : ME} {n : Nat} (c : chkE K sy nm sc (.attr m n) e = true) : ∃ v a p, e = .Attribute v a p ∧ (sy[n]? == some a && !isNoArgs v && chkE K sy nm sc m v) = true := by
  obtain ⟨⟨v, a, p, rfl⟩, c⟩ := tgE 6 c
  exact ⟨v, a, p, rfl, c⟩
theorem iE_item {a i : ME} (c : chkE K sy nm sc (.item a i) e = true) : ∃ v s p, e = .Subscript v s p ∧ (chkE K sy nm sc a v && chkE K sy nm sc i s) = true := by
  obtain ⟨⟨v, s, p, rfl⟩, c⟩ := tgE 7 c
  exact ⟨v, s, p, rfl, c⟩
theorem iE_gint {i : Int} (c : chkE K sy nm sc (.gint i) e = true) : ∃ x p j tk, e = .Name x p ∧ (nm.lookup x == some .globalImplicit && !(x == ("__debug__" : Str))) = true ∧ nsIn K mainGlobals x = some (some (.int j tk)) ∧ i = j := by
  obtain ⟨⟨x, p, rfl⟩, c⟩ := tgE 5 c
  replace c : (nm.lookup x == some .globalImplicit && !(x == ("__debug__" : Str)) && (match nsIn K mainGlobals x with | some (some (.int j _)) => i == j | _ => false)) = true := c
  obtain ⟨c1, c2⟩ := Bool.and_eq_true_iff.mp c
  cases k : nsIn K mainGlobals x with
  | none => rw [k] at c2; exact (Bool.false_ne_true c2).elim
  | some o => cases o with
    | none => rw [k] at c2; exact (Bool.false_ne_true c2).elim
    | some v => cases v with
      | int j tk => rw [k] at c2; exact ⟨x, p, j, tk, rfl, c1, k, beq_iff_eq.mp c2⟩
      | _ => rw [k] at c2; exact (Bool.false_ne_true c2).elim
theorem iE_slice {a lo hi : ME} (c : chkE K sy nm sc (.slice a lo hi) e = true) : ∃ v l u q p, e = .Subscript v (.Slice l u none q) p ∧ (chkE K sy nm sc a v && chkO K sy nm sc lo l && chkO K sy nm sc hi u) = true := by
  obtain ⟨⟨v, s, p, rfl⟩, c⟩ := tgE 7 c
  obtain ⟨⟨l, u, o, q, e⟩, c⟩ := tgE 8 c
  replace e : s = _ := e
  subst e
  obtain ⟨c1, c⟩ := Bool.and_eq_true_iff.mp c
  replace c1 : o = none := Option.isNone_iff_eq_none.mp c1
  subst c1
  exact ⟨v, l, u, q, p, rfl, c⟩
theorem iE_bin {op : Operator} {a b : ME} (c : chkE K sy nm sc (.bin op a b) e = true) : ∃ l o r p, e = .BinOp l o r p ∧ (op == o && chkE K sy nm sc a l && chkE K sy nm sc b r) = true := by
  obtain ⟨⟨l, o, r, p, rfl⟩, c⟩ := tgE 9 c
  exact ⟨l, o, r, p, rfl, c⟩
theorem iE_not {a : ME} (c : chkE K sy nm sc (.not a) e = true) : ∃ x p, e = .UnaryOp .Not x p ∧ chkE K sy nm sc a x = true := by
  obtain ⟨⟨x, p, rfl⟩, c⟩ := tgE 10 c
  exact ⟨x, p, rfl, c⟩
theorem iE_neg {a : ME} (c : chkE K sy nm sc (.neg a) e = true) : ∃ x p, e = .UnaryOp .USub x p ∧ chkE K sy nm sc a x = true := by
  obtain ⟨⟨x, p, rfl⟩, c⟩ := tgE 11 c
  exact ⟨x, p, rfl, c⟩
theorem iE_and {ms : List ME} (c : chkE K sy nm sc (.and ms) e = true) : ∃ es p, e = .BoolOp .And es p ∧ chkEs K sy nm sc ms es = true := by
  obtain ⟨⟨x, p, rfl⟩, c⟩ := tgE 12 c
  exact ⟨x, p, rfl, c⟩
theorem iE_or {ms : List ME} (c : chkE K sy nm sc (.or ms) e = true) : ∃ es p, e = .BoolOp .Or es p ∧ chkEs K sy nm sc ms es = true := by
  obtain ⟨⟨x, p, rfl⟩, c⟩ := tgE 13 c
  exact ⟨x, p, rfl, c⟩
theorem iE_cmp {op : CmpOp} {a b : ME} (c : chkE K sy nm sc (.cmp op a b) e = true) : ∃ l o r p, e = .Compare l [o] [r] p ∧ (op == o && chkE K sy nm sc a l && chkE K sy nm sc b r) = true := by
  obtain ⟨⟨l, o, r, p, rfl⟩, c⟩ := tgE 14 c
  exact ⟨l, o, r, p, rfl, c⟩
theorem iE_ite {x a b : ME} (c : chkE K sy nm sc (.ite x a b) e = true) : ∃ t u v p, e = .IfExp t u v p ∧ (chkE K sy nm sc x t && chkE K sy nm sc a u && chkE K sy nm sc b v) = true := by
  obtain ⟨⟨t, u, v, p, rfl⟩, c⟩ := tgE 15 c
  exact ⟨t, u, v, p, rfl, c⟩
theorem iE_tup {ms : List ME} (c : chkE K sy nm sc (.tup ms) e = true) : ∃ es q p, e = .Tuple es q p ∧ (chkEs K sy nm sc ms es && decide (ms.length ≤ 30)) = true := by
  obtain ⟨⟨es, q, p, rfl⟩, c⟩ := tgE 16 c
  exact ⟨es, q, p, rfl, c⟩
theorem iE_list {ms : List ME} (c : chkE K sy nm sc (.list ms) e = true) : ∃ es p, e = .List es p ∧ (chkEs K sy nm sc ms es && decide (ms.length ≤ 30)) = true := by
  obtain ⟨⟨es, p, rfl⟩, c⟩ := tgE 17 c
  exact ⟨es, p, rfl, c⟩
theorem iE_dI (c : chkE K sy nm sc .dI e = true) : ∃ p, e = .Dict [] [] p := (tgE 18 c).1
theorem iE_dS (c : chkE K sy nm sc .dS e = true) : ∃ p, e = .Dict [] [] p := (tgE 18 c).1
theorem okCon_con {f : ME} (c : okCon K f = true) : ∃ v, f = .con v ∧ callOk K v = true := by
  cases f with
  | con v => exact ⟨v, rfl, c⟩
  | _ => exact (Bool.false_ne_true c).elim
theorem iE_call {f : ME} {ms : List ME} (c : chkE K sy nm sc (.call f ms) e = true) : ∃ v x p es q, f = .con v ∧ e = .Call (.Name x p) es [] q ∧ (callOk K v && chkE K sy nm sc (.con v) (.Name x p) && chkEs K sy nm sc ms es) = true := by
  obtain ⟨⟨g, es, q, rfl⟩, c⟩ := tgE 19 c
  obtain ⟨⟨x, p, e⟩, c⟩ := tgE 5 c
  replace e : g = _ := e
  subst e
  obtain ⟨c1, c3⟩ := Bool.and_eq_true_iff.mp c
  obtain ⟨c1, c2⟩ := Bool.and_eq_true_iff.mp c1
  obtain ⟨v, rfl, c1⟩ := okCon_con c1
  exact ⟨v, x, p, es, q, rfl, rfl, Bool.and_eq_true_iff.mpr ⟨Bool.and_eq_true_iff.mpr ⟨c1, c2⟩, c3⟩⟩
theorem iE_meth {o : ME} {n : Nat} {ms : List ME} (c : chkE K sy nm sc (.meth o n ms) e = true) : ∃ g a ap es p, e = .Call (.Attribute g a ap) es [] p ∧ (sy[n]? == some a && !isNoArgs g && ap.endLine == p.line && decide (es.length < 30) && chkE K sy nm sc o g && chkEs K sy nm sc ms es) = true := by
  obtain ⟨⟨g, es, q, rfl⟩, c⟩ := tgE 19 c
  obtain ⟨⟨v, a, p, e⟩, c⟩ := tgE 6 c
  replace e : g = _ := e
  subst e
  exact ⟨v, a, p, es, q, rfl, c⟩
theorem isN_none {m : ME} (c : isN m = true) : m = .none := by
  cases m with
  | none => rfl
  | _ => exact (Bool.false_ne_true c).elim
theorem iE_comp {m e1 e2 : ME} {ti : List Nat} {one : Bool} {k : SrcK} {conds : List ME} (c : chkE K sy nm sc (.comp m ti one k e1 e2 conds) e = true) : ∃ elt target iter ifs scope p tn, e = .ListComp elt [⟨target, iter, ifs, 0⟩] scope p ∧ targetNames target = some (tn, one) ∧
    (scope.kind == .function && compOk scope.names nm tn ti sc && !isSet iter && chkE K sy (compNm scope.names nm) (compSc scope.names tn ti sc) m elt && chkEs K sy (compNm scope.names nm) (compSc scope.names tn ti sc) conds ifs &&
      (match (generalizing := false) k with
        | .exp => isN e2 && chkE K sy nm sc e1 iter
        | .range => isN e2 && chkR K sy nm sc e1 iter)) = true := by
  obtain ⟨⟨elt, gs, scope, p, rfl⟩, c⟩ := tgE 20 c
  obtain ⟨c1, c⟩ := Bool.and_eq_true_iff.mp c
  obtain ⟨⟨target, iter, ifs, asy⟩, e⟩ := one_inv c1
  replace e : gs = _ := e
  subst e
  replace c : (match targetNames target with
      | some (tn, one') => asy == 0 && one == one' && scope.kind == .function && compOk scope.names nm tn ti sc && !isSet iter &&
        chkE K sy (compNm scope.names nm) (compSc scope.names tn ti sc) m elt && chkEs K sy (compNm scope.names nm) (compSc scope.names tn ti sc) conds ifs &&
        (match (generalizing := false) k with
          | .exp => isN e2 && chkE K sy nm sc e1 iter
          | .range => isN e2 && chkR K sy nm sc e1 iter)
      | none => false) = true := c
  cases ht : targetNames target with
  | none => rw [ht] at c; exact (Bool.false_ne_true c).elim
  | some o =>
    obtain ⟨tn, one'⟩ := o
    rw [ht] at c
    simp only [Bool.and_eq_true, beq_iff_eq] at c ⊢
    obtain ⟨⟨⟨⟨⟨⟨⟨rfl, rfl⟩, c2⟩, c3⟩, c4⟩, c5⟩, c6⟩, c7⟩ := c
    exact ⟨elt, target, iter, ifs, scope, p, tn, rfl, ht, ⟨⟨⟨⟨c2, c3⟩, c4⟩, c5⟩, c6⟩, c7⟩
theorem iE_lc {m : ME} {el : Expr} {gs : List Comprehension} {scope : Scope} {p : Pos} (c : chkE K sy nm sc m (.ListComp el gs scope p) = true) : ∃ elt ti one k e1 e2 conds, m = .comp elt ti one k e1 e2 conds := by
  cases m with
  | comp elt ti one k e1 e2 conds => exact ⟨_, _, _, _, _, _, _, rfl⟩
  | _ => exact (Bool.false_ne_true c).elim
theorem iR {m : ME} (c : chkR K sy nm sc m e = true) : ∃ x p y pos, e = .Call (.Name x p) [y] [] pos ∧ (nm.lookup x == some .globalImplicit && !(x == ("__debug__" : Str)) && globIs K x (.type "range") && chkE K sy nm sc m y) = true := by
  obtain ⟨⟨g, es, q, rfl⟩, c⟩ := tgE 19 c
  obtain ⟨⟨x, p, e⟩, c⟩ := tgE 5 c
  replace e : g = _ := e
  subst e
  obtain ⟨c1, c⟩ := Bool.and_eq_true_iff.mp c
  obtain ⟨y, e⟩ := one_inv c1
  replace e : es = _ := e
  subst e
  exact ⟨x, p, y, q, rfl, c⟩
theorem iEs_nil {es : List Expr} (c : chkEs K sy nm sc [] es = true) : es = [] := by
  cases es with
  | nil => rfl
  | cons _ _ => exact (Bool.false_ne_true c).elim
theorem iEs_cons {m : ME} {ms : List ME} {es : List Expr} (c : chkEs K sy nm sc (m :: ms) es = true) : ∃ e es', es = e :: es' ∧ chkE K sy nm sc m e = true ∧ chkEs K sy nm sc ms es' = true := by
  cases es with
  | nil => exact (Bool.false_ne_true c).elim
  | cons e es' => exact ⟨e, es', rfl, Bool.and_eq_true_iff.mp c⟩
theorem chk_star' {m : ME} {p : Pos} (c : chkE K sy nm sc m (.Starred e p) = true) : False := by cases m <;> exact Bool.false_ne_true c
end
end Mine
end
section
open PySem PySem.W PyProof.Rows
set_option maxRecDepth 20000
namespace Mine
section
variable {T : Tab} {CS : CSpec} {r : Nat} {loc : Loc} {σ : Hp} {Q E : MV → Hp → Prop} {QB : Bool → Hp → Prop} {QS : Out → Loc → Hp → Prop} {ES : MV → Loc → Hp → Prop} {QL : List MV → Hp → Prop} {K : Loc → Hp → Prop}
theorem e_none : ewp T CS r .none loc σ Q E = Q .none σ := rfl
theorem e_bool {b : Bool} : ewp T CS r (.bool b) loc σ Q E = Q (.bool b) σ := rfl
theorem e_int {i : Int} : ewp T CS r (.int i) loc σ Q E = Q (.int i) σ := rfl
theorem e_sym {n : Nat} : ewp T CS r (.sym n) loc σ Q E = Q (.sym n) σ := rfl
theorem e_loc {i : Nat} : ewp T CS r (.loc i) loc σ Q E = locP loc[i]? (fun v => Q v σ) := rfl
theorem locP_some {v : MV} {Q : MV → Prop} : locP (some (some v)) Q = Q v := rfl
theorem setP_zero {x : Option MV} {l : Loc} {v : MV} {K : Loc → Prop} : setP (x :: l) 0 v K = K (some v :: l) := rfl
theorem setP_succ {x : Option MV} {l : Loc} {n : Nat} {v : MV} {K : Loc → Prop} : setP (x :: l) (n + 1) v K = setP l n v fun l => K (x :: l) := rfl
theorem manyP_nil {l : Loc} {K : Loc → Prop} : manyP l [] [] K = K l := rfl
theorem manyP_cons {l : Loc} {i : Nat} {is : List Nat} {x : MV} {xs : List MV} {K : Loc → Prop} : manyP l (i :: is) (x :: xs) K = setP l i x fun l => manyP l is xs K := rfl
theorem e_con {v : Value} : ewp T CS r (.con v) loc σ Q E = Q (.con v) σ := rfl
theorem e_gint {i : Int} : ewp T CS r (.gint i) loc σ Q E = Q (.int i) σ := rfl
theorem e_attr {e : ME} {n : Nat} : ewp T CS r (.attr e n) loc σ Q E = ewp T CS r e loc σ (fun o σ1 => attrP T o n σ1 fun v => Q v σ1) E := rfl
theorem e_item {e i : ME} : ewp T CS r (.item e i) loc σ Q E = ewp T CS r e loc σ (fun o σ1 => ewp T CS r i loc σ1 (fun j σ2 => itemP o j σ2 Q) E) E := rfl
theorem e_slice {e lo hi : ME} : ewp T CS r (.slice e lo hi) loc σ Q E = ewp T CS r e loc σ (fun o σ1 => ewp T CS r lo loc σ1 (fun l σ2 => ewp T CS r hi loc σ2 (fun h σ3 => sliceP o l h σ3 Q) E) E) E := rfl
theorem e_bin {op : Operator} {a b : ME} : ewp T CS r (.bin op a b) loc σ Q E = ewp T CS r a loc σ (fun va σ1 => ewp T CS r b loc σ1 (fun vb σ2 => binP op va vb σ2 Q) E) E := rfl
theorem e_not {e : ME} : ewp T CS r (.not e) loc σ Q E = ewp T CS r e loc σ (fun v σ1 => truthP v fun b => Q (.bool !b) σ1) E := rfl
noncomputable def negP (v : MV) (Q : MV → Prop) : Prop := match v with | .int i => Q (.int (-i)) | _ => False
theorem e_neg {e : ME} : ewp T CS r (.neg e) loc σ Q E = ewp T CS r e loc σ (fun v σ1 => negP v fun u => Q u σ1) E := rfl
theorem negP_int {i : Int} {Q : MV → Prop} : negP (.int i) Q = Q (.int (-i)) := rfl
theorem e_and {es : List ME} : ewp T CS r (.and es) loc σ Q E = boolwp T CS r true es loc σ Q E := rfl
theorem e_or {es : List ME} : ewp T CS r (.or es) loc σ Q E = boolwp T CS r false es loc σ Q E := rfl
theorem e_cmp {op : CmpOp} {a b : ME} : ewp T CS r (.cmp op a b) loc σ Q E = ewp T CS r a loc σ (fun va σ1 => ewp T CS r b loc σ1 (fun vb σ2 => cmpP op va vb σ2 fun c => Q (.bool c) σ2) E) E := rfl
theorem e_ite {c a b : ME} : ewp T CS r (.ite c a b) loc σ Q E = twp T CS r c loc σ (fun t σ1 => if t then ewp T CS r a loc σ1 Q E else ewp T CS r b loc σ1 Q E) E := rfl
theorem e_tup {es : List ME} : ewp T CS r (.tup es) loc σ Q E = ewps T CS r es loc σ (fun vs σ1 => Q (.tup vs) σ1) E := rfl
theorem e_list {es : List ME} : ewp T CS r (.list es) loc σ Q E = ewps T CS r es loc σ (fun vs σ1 => newP (.list vs) σ1 Q) E := rfl
theorem e_dI : ewp T CS r .dI loc σ Q E = newP (.dI []) σ Q := rfl
theorem e_call {v : Value} {args : List ME} : ewp T CS r (.call (.con v) args) loc σ Q E = ewps T CS r args loc σ (fun vs σ2 => CS r v vs σ2 Q E) E := rfl
theorem e_meth {o : ME} {n : Nat} {args : List ME} : ewp T CS r (.meth o n args) loc σ Q E = ewp T CS r o loc σ (fun ov σ1 => methP T ov n σ1 fun f first => ewps T CS r args loc σ1 (fun vs σ2 => CS r f (first ++ vs) σ2 Q E) E) E := rfl
theorem es_nil : ewps T CS r [] loc σ QL E = QL [] σ := rfl
theorem es_cons {e : ME} {es : List ME} : ewps T CS r (e :: es) loc σ QL E = ewp T CS r e loc σ (fun v σ1 => ewps T CS r es loc σ1 (fun vs σ2 => QL (v :: vs) σ2) E) E := rfl
theorem b_one {a : Bool} {e : ME} : boolwp T CS r a [e] loc σ Q E = ewp T CS r e loc σ Q E := rfl
theorem b_more {a : Bool} {e e' : ME} {es : List ME} : boolwp T CS r a (e :: e' :: es) loc σ Q E = ewp T CS r e loc σ (fun v σ1 => truthP v fun b => if b == a then boolwp T CS r a (e' :: es) loc σ1 Q E else Q v σ1) E := rfl
theorem t_not {e : ME} : twp T CS r (.not e) loc σ QB E = twp T CS r e loc σ (fun b σ1 => QB (!b) σ1) E := rfl
theorem t_and {es : List ME} : twp T CS r (.and es) loc σ QB E = alltwp T CS r true es loc σ QB E := rfl
theorem t_or {es : List ME} : twp T CS r (.or es) loc σ QB E = alltwp T CS r false es loc σ QB E := rfl
theorem t_ite {c a b : ME} : twp T CS r (.ite c a b) loc σ QB E = twp T CS r c loc σ (fun t σ1 => if t then twp T CS r a loc σ1 QB E else twp T CS r b loc σ1 QB E) E := rfl
theorem t_cmp {op : CmpOp} {a b : ME} : twp T CS r (.cmp op a b) loc σ QB E = ewp T CS r a loc σ (fun va σ1 => ewp T CS r b loc σ1 (fun vb σ2 => cmpP op va vb σ2 fun c => QB c σ2) E) E := rfl
theorem t_bool {b : Bool} : twp T CS r (.bool b) loc σ QB E = QB b σ := rfl
theorem t_loc {i : Nat} : twp T CS r (.loc i) loc σ QB E = locP loc[i]? (fun v => truthP v fun b => QB b σ) := rfl
theorem t_attr {e : ME} {n : Nat} : twp T CS r (.attr e n) loc σ QB E = ewp T CS r e loc σ (fun o σ1 => attrP T o n σ1 fun v => truthP v fun b => QB b σ1) E := rfl
theorem t_item {e i : ME} : twp T CS r (.item e i) loc σ QB E = ewp T CS r e loc σ (fun o σ1 => ewp T CS r i loc σ1 (fun j σ2 => itemP o j σ2 fun v σ3 => truthP v fun b => QB b σ3) E) E := rfl
theorem t_bin {op : Operator} {a b : ME} : twp T CS r (.bin op a b) loc σ QB E = ewp T CS r a loc σ (fun va σ1 => ewp T CS r b loc σ1 (fun vb σ2 => binP op va vb σ2 fun v σ3 => truthP v fun b => QB b σ3) E) E := rfl
theorem t_call {v : Value} {args : List ME} : twp T CS r (.call (.con v) args) loc σ QB E = ewps T CS r args loc σ (fun vs σ2 => CS r v vs σ2 (fun v σ3 => truthP v fun b => QB b σ3) E) E := rfl
theorem t_meth {o : ME} {n : Nat} {args : List ME} : twp T CS r (.meth o n args) loc σ QB E = ewp T CS r o loc σ (fun ov σ1 => methP T ov n σ1 fun f first => ewps T CS r args loc σ1 (fun vs σ2 => CS r f (first ++ vs) σ2 (fun v σ3 => truthP v fun b => QB b σ3) E) E) E := rfl
theorem at_nil {a : Bool} : alltwp T CS r a [] loc σ QB E = QB a σ := rfl
theorem at_cons {a : Bool} {e : ME} {es : List ME} : alltwp T CS r a (e :: es) loc σ QB E = twp T CS r e loc σ (fun b σ1 => if b == a then alltwp T CS r a es loc σ1 QB E else QB b σ1) E := rfl
end
end Mine
end
section
open PySem PySem.W PyProof.Rows PySem.Builtin.ObjectAttr
set_option maxRecDepth 20000
namespace Mine
section
variable {T : Tab} (cx : Cx T) (CS : CSpec)
structure Here (A : Around) (fs : List Env) (r : Nat) (env : Env) (nm : Nm) (sc : Sc) (loc : Loc) (own : Addr → Option Addr) (σ : Hp) (h : Heap) : Prop where
  around : ACtx A fs r
  stat : EStat env nm
  inv : Inv cx fs own σ h
  rel : ERel cx env sc loc own h
noncomputable def CSok : Prop := ∀ r f args σ Q E, CS r f args σ Q E → CallSpec cx r f args σ Q E
noncomputable def SndE (m : ME) : Prop := ∀ nm sc ex, chkE cx.K T.sym nm sc m ex = true → ∀ A fs r env loc own σ h t Q E, Here cx A fs r env nm sc loc own σ h → ewp T CS r m loc σ Q E →
  wpAny (model cx.prog cx.w) A (eval ex env) (Pst cx fs noX own h (VQ (T := T) Q)) (Pst cx fs noX own h (EQ E)) (cx.mk' h t)
noncomputable def SndEs (ms : List ME) : Prop := ∀ nm sc es, chkEs cx.K T.sym nm sc ms es = true → ∀ A fs r env loc own σ h t Q E, Here cx A fs r env nm sc loc own σ h → ewps T CS r ms loc σ Q E →
  wpAny (model cx.prog cx.w) A (spliced (es.map fun e => (false, eval e env))) (Pst cx fs noX own h (VsQ (T := T) fun vs σ' => vs.length = ms.length ∧ Q vs σ')) (Pst cx fs noX own h (EQ E)) (cx.mk' h t)
noncomputable def SndB (ms : List ME) : Prop := ∀ nm sc es, chkEs cx.K T.sym nm sc ms es = true → ∀ (isAnd : Bool) pos A fs r env loc own σ h t Q E, Here cx A fs r env nm sc loc own σ h → boolwp T CS r isAnd ms loc σ Q E →
  wpAny (model cx.prog cx.w) A (boolOp pos (if isAnd then .And else .Or) (evalEach es env)) (Pst cx fs noX own h (VQ (T := T) Q)) (Pst cx fs noX own h (EQ E)) (cx.mk' h t)
noncomputable def SndT (m : ME) : Prop := ∀ nm sc ex, chkE cx.K T.sym nm sc m ex = true → ∀ A fs r env loc own σ h t Q E, Here cx A fs r env nm sc loc own σ h → twp T CS r m loc σ Q E →
  wpAny (model cx.prog cx.w) A (isTrue ex env (eval ex env)) (Pst cx fs noX own h (BQ Q)) (Pst cx fs noX own h (EQ E)) (cx.mk' h t)
noncomputable def SndA (ms : List ME) : Prop := ∀ nm sc es, chkEs cx.K T.sym nm sc ms es = true → ∀ (isAnd : Bool) A fs r env loc own σ h t Q E, Here cx A fs r env nm sc loc own σ h → alltwp T CS r isAnd ms loc σ Q E →
  wpAny (model cx.prog cx.w) A (allTrue (if isAnd then .And else .Or) es env) (Pst cx fs noX own h (BQ Q)) (Pst cx fs noX own h (EQ E)) (cx.mk' h t)
end
section
variable {T : Tab} {cx : Cx T} {CS : CSpec} {A : Around} {fs : List Env} {r : Nat} {env : Env} {nm : Nm} {sc : Sc} {loc : Loc} {own own1 : Addr → Option Addr} {σ σ1 : Hp} {h h1 : Heap} {t : Nat}
theorem Here.go (H : Here cx A fs r env nm sc loc own σ h) (I : Inv cx fs own1 σ1 h1) (x : OwnExt own own1 h) (k : Keep fs own noX h h1) : Here cx A fs r env nm sc loc own1 σ1 h1 :=
  ⟨H.around, H.stat, I, H.rel.keep x k (H.inv.tk0 k)⟩
theorem step {α β : Type} {c : Sem α} {d : α → Sem β} {P : α → Hp → Heap → Prop} {P' : β → Hp → Heap → Prop} {E : MV → Hp → Prop} {s : Shared}
    (W : wpAny (model cx.prog cx.w) A c (Pst cx fs noX own h P) (Pst cx fs noX own h (EQ E)) s)
    (f : ∀ v own1 σ1 h1 t1, Inv cx fs own1 σ1 h1 → OwnExt own own1 h → Keep fs own noX h h1 → P v σ1 h1 → wpAny (model cx.prog cx.w) A (d v) (Pst cx fs noX own1 h1 P') (Pst cx fs noX own1 h1 (EQ E)) (cx.mk' h1 t1)) :
    wpAny (model cx.prog cx.w) A c (fun v s => wpAny (model cx.prog cx.w) A (d v) (Pst cx fs noX own h P') (Pst cx fs noX own h (EQ E)) s) (Pst cx fs noX own h (EQ E)) s :=
  wpAny_seq W (fun _ _ e => e) fun v own1 σ1 h1 t1 I x k p => wpAny_mono (f v own1 σ1 h1 t1 I x k p) (fun _ _ q => q.up x k) fun _ _ q => q.up x k
theorem chk_star {m : ME} {e : Expr} {p : Pos} : chkE cx.K T.sym nm sc m (.Starred e p) = false := by cases m <;> rfl
theorem starEach_chk : ∀ {ms : List ME} {es : List Expr}, chkEs cx.K T.sym nm sc ms es = true → ∀ (env : Env) (pos : Pos), backTo pos (starEach es env) = es.map fun e => (false, eval e env)
  | [], es, c, env, pos => by
    obtain rfl := iEs_nil c; rfl
  | m :: ms, es, c, env, pos => by
    cases es with
    | nil => exact (Bool.false_ne_true c).elim
    | cons e es =>
      replace c : (chkE cx.K T.sym nm sc m e && chkEs cx.K T.sym nm sc ms es) = true := c
      rw [Bool.and_eq_true] at c
      have ih := starEach_chk c.2 env pos
      have e1 : starEach (e :: es) env = (false, eval e env) :: starEach es env := by
        cases e <;> first | rfl | (have c1 := c.1; rw [chk_star] at c1; cases c1)
      rw [e1, List.map_cons, ← ih]
      rfl
theorem chkEs_length : ∀ {ms : List ME} {es : List Expr}, chkEs cx.K T.sym nm sc ms es = true → es.length = ms.length
  | [], es, c => by
    obtain rfl := iEs_nil c; rfl
  | m :: ms, es, c => by
    cases es with
    | nil => exact (Bool.false_ne_true c).elim
    | cons e es =>
      replace c : (chkE cx.K T.sym nm sc m e && chkEs cx.K T.sym nm sc ms es) = true := c
      rw [Bool.and_eq_true] at c
      rw [List.length_cons, List.length_cons, chkEs_length c.2]
theorem plainMap (es : List Expr) (env : Env) : (es.map fun e => ((false, eval e env) : Bool × Sem Value)).any (·.1) = false := by
  induction es with
  | nil => rfl
  | cons e es ih => rw [List.map_cons, List.any_cons, ih]; rfl
theorem EStat.kindOf (S : EStat env nm) (x : Str) : env.kindOf x = nm.lookup x := by
  unfold Env.kindOf; rw [S.names]
theorem sound_none : SndE cx CS .none := fun nm sc ex c A fs r env loc own σ h t Q E H q => by
  replace c := iE_none c; obtain ⟨_, _, rfl⟩ := c; rw [e_none] at q
  exact wpAny_Constant_none (val_here H.inv .mk_none q)
theorem sound_bool (b : Bool) : SndE cx CS (.bool b) := fun nm sc ex c A fs r env loc own σ h t Q E H q => by
  replace c := iE_bool c; obtain ⟨_, _, rfl⟩ := c; rw [e_bool] at q
  exact wpAny_Constant_bool (val_here H.inv (.mk_bool _) q)
theorem sound_int (b : Int) : SndE cx CS (.int b) := fun nm sc ex c A fs r env loc own σ h t Q E H q => by
  replace c := iE_int c; obtain ⟨_, _, rfl⟩ := c; rw [e_int] at q
  exact wpAny_Constant_int (val_here H.inv (.mk_int _ _) q)
theorem sound_sym (n : Nat) : SndE cx CS (.sym n) := fun nm sc ex c A fs r env loc own σ h t Q E H q => by
  replace c := iE_sym c; obtain ⟨_, _, _, rfl, c⟩ := c; rw [e_sym] at q
  exact wpAny_Constant_str (val_here H.inv (.mk_sym _ (beq_iff_eq.mp c)) q)
theorem sound_loc (i : Nat) : SndE cx CS (.loc i) := fun nm sc ex c A fs r env loc own σ h t Q E H q => by
  replace c := iE_loc c; obtain ⟨x, p, rfl, c⟩ := c; rw [e_loc] at q
  obtain ⟨mv, hl, q⟩ := locP_inv q
  · skip
    simp only [Bool.and_eq_true, localKind, notWord, Bool.or_eq_true, Bool.not_eq_true', beq_iff_eq] at c
    obtain ⟨⟨c1, c2⟩, c3, c4⟩ := c
    refine name_loc H.stat H.rel c1 ?_ (by simpa using c3) (by simpa using c4) hl fun v rv => val_here H.inv rv q
    rw [H.stat.kindOf]
    rcases c2 with (c2 | c2) | c2
    · exact .inl c2
    · exact .inr (.inl c2)
    · exact .inr (.inr c2)
theorem sound_con (v : Value) : SndE cx CS (.con v) := fun nm sc ex c A fs r env loc own σ h t Q E H q => by
  replace c := iE_con c; obtain ⟨x, p, rfl, c⟩ := c; rw [e_con] at q
  simp only [Bool.and_eq_true, Bool.not_eq_true', beq_iff_eq] at c
  obtain ⟨⟨⟨c1, c2⟩, c3⟩, c4⟩ := c
  exact name_glob H.inv H.stat (by rw [H.stat.kindOf]; exact c1) (by simpa using c2) c3 (val_here H.inv (.mk_con c4) q)
theorem sound_gint (i : Int) : SndE cx CS (.gint i) := fun nm sc ex c A fs r env loc own σ h t Q E H q => by
  replace c := iE_gint c; obtain ⟨x, p, j, tk, rfl, c, e, rfl⟩ := c; rw [e_gint] at q
  simp only [Bool.and_eq_true, Bool.not_eq_true', beq_iff_eq] at c
  exact name_glob (v := .int i tk) H.inv H.stat (by rw [H.stat.kindOf]; exact c.1) (by simpa using c.2) (by unfold globIs; rw [e]; simp) (val_here H.inv (.mk_int _ _) q)
theorem attrBase {v : Expr} (hv : isNoArgs v = false) (x : Str) (env : Env) (whole : Sem Value) : attributeBase v x env whole = whole := by
  cases v with
  | Call g es kw p => cases g with
    | Name id q => cases es with
      | nil => cases kw with
        | nil => exact (Bool.false_ne_true hv.symm).elim
        | cons _ _ => rfl
      | cons _ _ => rfl
    | _ => rfl
  | _ => rfl
theorem sound_attr {m : ME} (n : Nat) (s1 : SndE cx CS m) : SndE cx CS (.attr m n) := fun nm sc ex c A fs r env loc own σ h t Q E H q => by
  replace c := iE_attr c; obtain ⟨v, a, pos, rfl, c⟩ := c; rw [e_attr] at q
  simp only [Bool.and_eq_true, beq_iff_eq, Bool.not_eq_true'] at c
  obtain ⟨⟨c1, c2⟩, c3⟩ := c
  refine Attribute_any_ ?_ (by show (do let o ← attributeBase v a env (eval v env); _) = _; rw [attrBase c2])
  refine step (s1 nm sc v c3 A fs r env loc own σ h t _ E H q) fun u own1 σ1 h1 t1 I x k p => ?_
  obtain ⟨mo, ro, p⟩ := p
  exact attr_sound I c1 ro p fun m u t' rv q => val_here I rv q
theorem sound_item {a b : ME} (s1 : SndE cx CS a) (s2 : SndE cx CS b) : SndE cx CS (.item a b) := fun nm sc ex c A fs r env loc own σ h t Q E H q => by
  replace c := iE_item c; obtain ⟨v, s, pos, rfl, c⟩ := c; rw [e_item] at q
  simp only [Bool.and_eq_true] at c
  refine Subscript_ ?_
  refine wpAny_seq (s1 nm sc v c.1 A fs r env loc own σ h t _ E H q) (fun _ _ e => e) fun u own1 σ1 h1 t1 I x k p => ?_
  obtain ⟨mo, ro, p⟩ := p
  have H1 := H.go I x k
  refine wpAny_seq (s2 nm sc s c.2 A fs r env loc own1 σ1 h1 t1 _ E H1 p) (fun _ _ e => e.up x k) fun u2 own2 σ2 h2 t2 I2 x2 k2 p2 => ?_
  obtain ⟨mi, ri, p2⟩ := p2
  refine item_sound I2 ?_ (ro.tk (I.tk0 k2)) ri p2 fun m v t' rv q => ((val_here I2 rv q).up x2 k2).up x k
  intro a' b' c' d' e
  subst e
  have c2 := c.2
  cases b <;> exact Bool.false_ne_true c2
theorem sound_opt {m : ME} (s1 : SndE cx CS m) : ∀ nm sc o, chkO cx.K T.sym nm sc m o = true → ∀ A fs r env loc own σ h t Q E, Here cx A fs r env nm sc loc own σ h → ewp T CS r m loc σ Q E →
    wpAny (model cx.prog cx.w) A (evalPart o env) (Pst cx fs noX own h (VQ (T := T) Q)) (Pst cx fs noX own h (EQ E)) (cx.mk' h t) := fun nm sc o c A fs r env loc own σ h t Q E H q => by
  cases o with
  | some e => exact wpAny_evalPart_some (s1 nm sc _ c A fs r env loc own σ h t Q E H q)
  | none => cases m with
    | none => exact wpAny_evalPart_none (val_here H.inv .mk_none q)
    | _ => exact (Bool.false_ne_true c).elim
theorem sound_slice {a lo hi : ME} (s1 : SndE cx CS a) (s2 : SndE cx CS lo) (s3 : SndE cx CS hi) : SndE cx CS (.slice a lo hi) := fun nm sc ex c A fs r env loc own σ h t Q E H q => by
  replace c := iE_slice c; obtain ⟨v, l, u, ps, pos, rfl, c⟩ := c; rw [e_slice] at q
  simp only [Bool.and_eq_true] at c
  obtain ⟨⟨c1, c2⟩, c3⟩ := c
  refine Subscript_ ?_
  refine wpAny_seq (s1 nm sc v c1 A fs r env loc own σ h t _ E H q) (fun _ _ e => e) fun u own1 σ1 h1 t1 I x k p => ?_
  obtain ⟨mo, ro, p⟩ := p
  have H1 := H.go I x k
  refine wpAny_Slice ?_
  refine wpAny_seq (sound_opt s2 nm sc _ c2 A fs r env loc own1 σ1 h1 t1 _ E H1 p) (fun _ _ e => e.up x k) fun u2 own2 σ2 h2 t2 I2 x2 k2 p2 => ?_
  obtain ⟨ml, rl, p2⟩ := p2
  have H2 := H1.go I2 x2 k2
  refine wpAny_seq (sound_opt s3 nm sc _ c3 A fs r env loc own2 σ2 h2 t2 _ E H2 p2) (fun _ _ e => (e.up x2 k2).up x k) fun u3 own3 σ3 h3 t3 I3 x3 k3 p3 => ?_
  obtain ⟨mh, rh, p3⟩ := p3
  refine wpAny_evalPart_none ?_
  refine wpAny_mono (slice_sound (X := noX) I3 ((ro.tk (I.tk0 k2)).tk (I2.tk0 k3)) (rl.tk (I2.tk0 k3)) rh p3) (fun _ _ q => ((q.up x3 k3).up x2 k2).up x k) fun _ _ q => ((Pst.up x3 k3 q).up x2 k2).up x k
theorem sound_bin {op : Operator} {a b : ME} (s1 : SndE cx CS a) (s2 : SndE cx CS b) : SndE cx CS (.bin op a b) := fun nm sc ex c A fs r env loc own σ h t Q E H q => by
  replace c := iE_bin c; obtain ⟨l, o, rr, pos, rfl, c⟩ := c; rw [e_bin] at q
  simp only [Bool.and_eq_true, beq_iff_eq] at c
  obtain ⟨⟨rfl, c1⟩, c2⟩ := c
  refine wpAny_BinOp ?_
  refine wpAny_seq (s1 nm sc l c1 A fs r env loc own σ h t _ E H q) (fun _ _ e => e) fun u own1 σ1 h1 t1 I x k p => ?_
  obtain ⟨ma, ra, p⟩ := p
  have H1 := H.go I x k
  refine wpAny_seq (s2 nm sc rr c2 A fs r env loc own1 σ1 h1 t1 _ E H1 p) (fun _ _ e => e.up x k) fun u2 own2 σ2 h2 t2 I2 x2 k2 p2 => ?_
  obtain ⟨mb, rb, p2⟩ := p2
  exact wpAny_mono (bin_sound (X := noX) I2 (ra.tk (I.tk0 k2)) rb p2) (fun _ _ q => (q.up x2 k2).up x k) fun _ _ q => (Pst.up x2 k2 q).up x k
theorem sound_not {a : ME} (s1 : SndE cx CS a) : SndE cx CS (.not a) := fun nm sc ex c A fs r env loc own σ h t Q E H q => by
  replace c := iE_not c; obtain ⟨e, pos, rfl, c⟩ := c; rw [e_not] at q
  refine wpAny_UnaryOp ?_
  refine step (s1 nm sc e c A fs r env loc own σ h t _ E H q) fun u own1 σ1 h1 t1 I x k p => ?_
  obtain ⟨ma, ra, p⟩ := p
  exact not_of (truth_sound ra p fun b t' q => val_here I (.mk_bool _) q)
theorem sound_neg {a : ME} (s1 : SndE cx CS a) : SndE cx CS (.neg a) := fun nm sc ex c A fs r env loc own σ h t Q E H q => by
  replace c := iE_neg c; obtain ⟨e, pos, rfl, c⟩ := c; rw [e_neg] at q
  refine wpAny_UnaryOp ?_
  refine step (s1 nm sc e c A fs r env loc own σ h t _ E H q) fun u own1 σ1 h1 t1 I x k p => ?_
  obtain ⟨ma, ra, p⟩ := p
  cases ma with
  | int i =>
    obtain ⟨t', rfl⟩ := ra.int_inv
    exact PyProof.Rows.neg_int (val_here I (.mk_int _ _) p)
  | _ => exact p.elim
theorem sound_and {ms : List ME} (s1 : SndB cx CS ms) : SndE cx CS (.and ms) := fun nm sc ex c A fs r env loc own σ h t Q E H q => by
  replace c := iE_and c; obtain ⟨_, _, rfl, c⟩ := c; rw [e_and] at q
  exact s1 nm sc _ c true _ A fs r env loc own σ h t Q E H q
theorem sound_or {ms : List ME} (s1 : SndB cx CS ms) : SndE cx CS (.or ms) := fun nm sc ex c A fs r env loc own σ h t Q E H q => by
  replace c := iE_or c; obtain ⟨_, _, rfl, c⟩ := c; rw [e_or] at q
  exact s1 nm sc _ c false _ A fs r env loc own σ h t Q E H q
theorem marks_chk {m : ME} {e : Expr} (c : chkE cx.K T.sym nm sc m e = true) (op : CmpOp) : behindInMarks op e = false := by
  cases e <;> first | rfl | (exfalso; cases m <;> exact Bool.false_ne_true c)
theorem ACtx.u64 (a : ACtx A fs r) : A.units + 64 < cLine := by
  have := a.units
  show _ < 9900
  lia
theorem sound_cmp {op : CmpOp} {a b : ME} (s1 : SndE cx CS a) (s2 : SndE cx CS b) : SndE cx CS (.cmp op a b) := fun nm sc ex c A fs r env loc own σ h t Q E H q => by
  replace c := iE_cmp c; obtain ⟨l, o, rr, pos, rfl, c⟩ := c; rw [e_cmp] at q
  simp only [Bool.and_eq_true, beq_iff_eq] at c
  obtain ⟨⟨rfl, c1⟩, c2⟩ := c
  refine wpAny_Compare1 ?_ (marks_chk c2 op)
  refine wpAny_seq (s1 nm sc l c1 A fs r env loc own σ h t _ E H q) (fun _ _ e => e) fun u own1 σ1 h1 t1 I x k p => ?_
  obtain ⟨ma, ra, p⟩ := p
  have H1 := H.go I x k
  refine wpAny_seq (s2 nm sc rr c2 A fs r env loc own1 σ1 h1 t1 _ E H1 p) (fun _ _ e => e.up x k) fun u2 own2 σ2 h2 t2 I2 x2 k2 p2 => ?_
  obtain ⟨mb, rb, p2⟩ := p2
  exact cmp_sound I2 H.around.u64 (ra.tk (I.tk0 k2)) rb p2 fun b t' q => ((val_here I2 (.mk_bool b) q).up x2 k2).up x k
theorem tsound_cmp {op : CmpOp} {a b : ME} (s1 : SndE cx CS a) (s2 : SndE cx CS b) : SndT cx CS (.cmp op a b) := fun nm sc ex c A fs r env loc own σ h t Q E H q => by
  replace c := iE_cmp c; obtain ⟨l, o, rr, pos, rfl, c⟩ := c; rw [t_cmp] at q
  simp only [Bool.and_eq_true, beq_iff_eq] at c
  obtain ⟨⟨rfl, c1⟩, c2⟩ := c
  refine wpAny_isTrue_Compare1 ?_ (marks_chk c2 op)
  refine wpAny_seq (s1 nm sc l c1 A fs r env loc own σ h t _ E H q) (fun _ _ e => e) fun u own1 σ1 h1 t1 I x k p => ?_
  obtain ⟨ma, ra, p⟩ := p
  have H1 := H.go I x k
  refine wpAny_seq (s2 nm sc rr c2 A fs r env loc own1 σ1 h1 t1 _ E H1 p) (fun _ _ e => e.up x k) fun u2 own2 σ2 h2 t2 I2 x2 k2 p2 => ?_
  obtain ⟨mb, rb, p2⟩ := p2
  exact cmp_sound I2 H.around.u64 (ra.tk (I.tk0 k2)) rb p2 fun b t' q => wpAny_truthy_bool (((Pst.here I2 q).up x2 k2).up x k)
end
end Mine
end
section
open PySem PySem.W PyProof.Rows PySem.Builtin.ObjectAttr
set_option maxRecDepth 20000
namespace Mine
section
variable {T : Tab} {cx : Cx T} {CS : CSpec} {A : Around} {fs : List Env} {r : Nat} {env : Env} {nm : Nm} {sc : Sc} {loc : Loc} {own own1 : Addr → Option Addr} {σ σ1 : Hp} {h h0 h1 h2 h' : Heap} {t : Nat} {X Y : Addr → Prop}
theorem Inv.buts (I : Inv cx fs own σ h) (hX : ∀ a, X a → own a = none ∧ cx.base.get? a = none ∧ (frameAddr fs a → ∃ o es n, h'.get? a = some o ∧ o.data = .dict es n) ∧ ∀ ys n, h.get? a ≠ some (tupObj ys n))
    (hk : ∀ b o, ¬ X b → h.get? b = some o → h'.get? b = some o) : Inv cx fs own σ h' ∧ TK h h' := by
  have tk : TK h h' := fun a ys n e => hk a _ (fun x => (hX a x).2.2.2 ys n e) e
  refine ⟨⟨fun b o e => hk b o (fun x => ?_) (I.base b o e), fun a x e => ?_, I.ownr, fun a o e => ?_, fun ev hm => ?_⟩, tk⟩
  · rw [(hX b x).2.1] at e; cases e
  · obtain ⟨z1, o, z2, z3⟩ := I.ownd a x e
    exact ⟨z1, o, hk a o (fun x => by rw [(hX a x).1] at e; cases e) z2, z3⟩
  · exact I.objK e tk (fun _ _ z => z) (fun _ z => z) fun b oo e1 e2 => hk b oo (fun x => by rw [(hX b x).1] at e1; cases e1) e2
  · obtain ⟨L, o, es, n, f1, f2, f3, f4, f5, f7⟩ := I.frames ev hm
    by_cases x : X L
    · obtain ⟨o', es', n', g1, g2⟩ := (hX L x).2.2.1 ⟨ev, hm, f1⟩
      exact ⟨L, o', es', n', f1, f2, f3, g1, g2, f7⟩
    · exact ⟨L, o, es, n, f1, f2, f3, hk L o x f4, f5, f7⟩
structure Hid (X : Addr → Prop) (h h' : Heap) : Prop where
  same : ∀ b o, ¬ X b → h.get? b = some o → h'.get? b = some o
  live : ∀ b o, X b → h.get? b = some o → ∃ o', h'.get? b = some o'
theorem Hid.refl (X : Addr → Prop) (h : Heap) : Hid X h h := ⟨fun _ _ _ e => e, fun _ o _ e => ⟨o, e⟩⟩
theorem Hid.trans (x : Hid X h h1) (y : Hid X h1 h2) : Hid X h h2 := by
  refine ⟨fun b o n e => y.same b o n (x.same b o n e), fun b o n e => ?_⟩
  obtain ⟨o', e'⟩ := x.live b o n e
  exact y.live b o' n e'
theorem Hid.mono (x : Hid X h h1) (s : ∀ a, X a → Y a) : Hid Y h h1 := by
  refine ⟨fun b o n e => x.same b o (fun z => n (s b z)) e, fun b o _ e => ?_⟩
  by_cases z : X b
  · exact x.live b o z e
  · exact ⟨o, x.same b o z e⟩
theorem Hid.grow (hk : ∀ b o, h.get? b = some o → h'.get? b = some o) : Hid X h h' := ⟨fun b o _ e => hk b o e, fun b o _ e => ⟨o, hk b o e⟩⟩
theorem Keep.buts (k : Keep fs own X h0 h1) (hk : ∀ b o, ¬ Y b → h1.get? b = some o → h2.get? b = some o) (hY : ∀ a, Y a → (X a ∧ ∀ o, h1.get? a = some o → ∃ o', h2.get? a = some o') ∨ h0.get? a = none) : Keep fs own X h0 h2 := by
  refine ⟨fun a o e => ?_, fun a o e n hx => ?_, fun a o x e nx g => ?_⟩
  · obtain ⟨o', e'⟩ := k.live a o e
    by_cases y : Y a
    · rcases hY a y with ⟨_, z⟩ | z
      · exact z o' e'
      · rw [e] at z; cases z
    · exact ⟨o', hk a o' y e'⟩
  · have y : ¬ Y a := fun y => by
      rcases hY a y with ⟨z, _⟩ | z
      · exact hx z
      · rw [e] at z; cases z
    rcases k.same a o e n hx with z | ⟨z, sl, z'⟩
    · exact .inl (hk a o y z)
    · exact .inr ⟨z, sl, hk a _ y z'⟩
  · obtain ⟨o1, g1, c1⟩ := k.kls a o x e nx g
    refine ⟨o1, hk a o1 (fun y => ?_) g1, c1⟩
    rcases hY a y with ⟨z, _⟩ | z
    · exact nx z
    · rw [g] at z; cases z
theorem Keep.hid (k : Keep fs own X h0 h1) (x : Hid Y h1 h2) (hY : ∀ a, Y a → X a ∨ h0.get? a = none) : Keep fs own X h0 h2 :=
  k.buts x.same fun a y => (hY a y).imp (fun z => ⟨z, fun o e => x.live a o y e⟩) id
noncomputable def Odd (h : Heap) (a : Addr) : Prop := ∀ o, h.get? a = some o → (∀ es n, o.data ≠ .dict es n) ∧ ∀ v, o.data ≠ .cell v
theorem ERel.odd (R : ERel cx env sc loc own h) {a : Addr} (ho : Odd h a) (hk : ∀ b o, b ≠ a → h.get? b = some o → h'.get? b = some o) (tk : TK h h') : ERel cx env sc loc own h' := by
  obtain ⟨⟨m, ns, l⟩, oL, bL, cells, inj, scInj⟩ := R
  refine ⟨⟨m, ?_, fun x i mv h1 h2 h3 => ?_⟩, oL, bL, fun x i h1 h2 => ?_, inj, scInj⟩
  · obtain ⟨o, es, ep, e, d, r⟩ := ns
    exact ⟨o, es, ep, hk _ o (fun z => by rw [z] at e; exact (ho o e).1 _ _ d) e, d, r⟩
  · obtain ⟨v, h4, h5⟩ := l x i mv h1 h2 h3
    exact ⟨v, h4, h5.tk tk⟩
  · obtain ⟨c, o, vo, c1, c2, c3, c4, c5, c6, c8⟩ := cells x i h1 h2
    refine ⟨c, o, vo, c1, hk c o (fun z => by rw [z] at c2; exact (ho o c2).2 _ c3) c2, c3, c4, c5, c6, fun mv hm => ?_⟩
    obtain ⟨v, h4, h5⟩ := c8 mv hm
    exact ⟨v, h4, h5.tk tk⟩
theorem ERel.grow (R : ERel cx env sc loc own h) (hk : ∀ b o, h.get? b = some o → h'.get? b = some o) : ERel cx env sc loc own h' := by
  have tk : TK h h' := fun a ys n e => hk a _ e
  obtain ⟨⟨m, ns, l⟩, oL, bL, cells, inj, scInj⟩ := R
  refine ⟨⟨m, ns.keeps hk, fun x i mv h1 h2 h3 => ?_⟩, oL, bL, fun x i h1 h2 => ?_, inj, scInj⟩
  · obtain ⟨v, h4, h5⟩ := l x i mv h1 h2 h3
    exact ⟨v, h4, h5.tk tk⟩
  · obtain ⟨c, o, vo, c1, c2, c3, c4, c5, c6, c8⟩ := cells x i h1 h2
    refine ⟨c, o, vo, c1, hk c o c2, c3, c4, c5, c6, fun mv hm => ?_⟩
    obtain ⟨v, h4, h5⟩ := c8 mv hm
    exact ⟨v, h4, h5.tk tk⟩
theorem Inv.grow (I : Inv cx fs own σ h) (hk : ∀ b o, h.get? b = some o → h'.get? b = some o) : Inv cx fs own σ h' ∧ TK h h' :=
  I.buts (X := noX) (fun _ x => x.elim) fun b o _ e => hk b o e
theorem set_get {i j : Nat} {x : Option MV} {mv : MV} (e : (loc.set i x)[j]? = some (some mv)) : (i = j ∧ x = some mv) ∨ (i ≠ j ∧ loc[j]? = some (some mv)) := by
  rw [List.getElem?_set] at e
  by_cases q : i = j
  · subst q
    simp only [if_true] at e
    split at e
    · cases e; exact .inl ⟨rfl, rfl⟩
    · cases e
  · rw [if_neg q] at e
    exact .inr ⟨q, e⟩
theorem kind_fn {k : ScopeKind} (e : k = .function) (b : Bool) : (k == .class || (k == .module && b)) = false := by subst e; rfl
noncomputable def wrX (env : Env) (tn : List Str) (a : Addr) : Prop := a = env.locals ∨ ∃ x ∈ tn, env.cells.lookup x = some a ∧ env.kindOf x = some .cell
theorem wrX_frame {tn : List Str} {a : Addr} (hs : ∀ y ∈ tn, ∃ i, sc.lookup y = some i) (x : wrX env tn a) : frameX env sc a := x.imp id fun ⟨y, hy, z⟩ => let ⟨i, hi⟩ := hs y hy; ⟨y, i, hi, z⟩
theorem store_sound (S : EStat env nm) (I : Inv cx fs own σ h) (R : ERel cx env sc loc own h) {x : Str} {i : Nat} {m : MV} {v : Value} {Q : Unit → Shared → Prop} {E : Value → Shared → Prop} {M : Model}
    (hi : sc.lookup x = some i) (hk : nm.lookup x = some .local ∨ nm.lookup x = some .cell) (rv : VRel T.sym h m v)
    (k : ∀ h' t', Inv cx fs own σ h' → ERel cx env sc (loc.set i (some m)) own h' → Hid (wrX env [x]) h h' → TK h h' → Q () (cx.mk' h' t')) : wpAny M A (storeName env x v) Q E (cx.mk' h t) := by
  obtain ⟨⟨ns, hns, hl⟩, oL, bL, cells, inj, scInj⟩ := R
  rw [← S.kindOf] at hk
  rcases hk with hk | hk
  · refine wpAny_storeName_local hk hns (fun h' hn' sb => ?_) (kind_fn S.kind _)
    have ht := sb.extBut
    obtain ⟨o0, es0, n0, e0, d0, _⟩ := hns
    have old : h.get? env.locals = some o0 := e0
    obtain ⟨o1, es1, n1, e1, d1, _⟩ := id hn'
    obtain ⟨I', tk⟩ := I.buts (X := fun b => b = env.locals) (h' := h') (fun a x => by
      subst x
      refine ⟨oL, bL, fun _ => ⟨o1, es1, n1, e1, d1⟩, fun ys n e => ?_⟩
      rw [old] at e; cases e; cases d0) fun b o hb e => ht b o hb e
    refine k h' _ I' ⟨⟨_, hn', fun y j mv g1 g2 g3 => ?_⟩, oL, bL, fun y j g1 g2 => ?_, inj, scInj⟩ ⟨fun b o hb e => ht b o (fun z => hb (.inl z)) e, fun b o hb e => ?_⟩ tk
    · by_cases q : y = x
      · subst q
        rw [hi] at g1; cases g1
        rcases set_get g2 with ⟨_, z⟩ | ⟨z, _⟩
        · cases z
          exact ⟨v, by simp, rv.tk tk⟩
        · exact absurd rfl z
      · rcases set_get g2 with ⟨z, _⟩ | ⟨_, z⟩
        · subst z; exact absurd (scInj y x i g1 hi) q
        · obtain ⟨u, u1, u2⟩ := hl y j mv g1 z g3
          exact ⟨u, by simp only [if_neg q]; exact u1, u2.tk tk⟩
    · obtain ⟨c, o, vo, c1, c2, c3, c4, c5, c6, c8⟩ := cells y j g1 g2
      refine ⟨c, o, vo, c1, ht c o c6 c2, c3, c4, c5, c6, fun mv hm => ?_⟩
      rcases set_get hm with ⟨z, _⟩ | ⟨_, z⟩
      · subst z
        have := scInj y x i g1 hi
        subst this
        rw [hk] at g2; rcases g2 with g2 | g2 <;> cases g2
      · obtain ⟨u, u1, u2⟩ := c8 mv z
        exact ⟨u, u1, u2.tk tk⟩
    · by_cases z : b = env.locals
      · subst z; exact ⟨o1, e1⟩
      · exact ⟨o, ht b o z e⟩
  · obtain ⟨c, o, vo, c1, c2, c3, c4, c5, c6, c8⟩ := cells x i hi (.inl hk)
    refine wpAny_storeName_cell S.kind hk c1 ⟨o, c2, c3⟩ fun h' hc' sb => ?_
    have ht := sb.extBut
    have c2' : h.get? c = some o := c2
    obtain ⟨o1, e1, d1⟩ := hc'
    obtain ⟨I', tk⟩ := I.buts (X := fun b => b = c) (h' := h') (fun a x => by
      subst x
      refine ⟨c4, c5, fun z => ?_, fun ys n e => ?_⟩
      · obtain ⟨ev, hm, hf⟩ := z
        obtain ⟨L, o', es, n, f1, f2, f3, f4, f5, f7⟩ := I.frames ev hm
        rw [hf] at f1; cases f1
        rw [c2'] at f4; cases f4; rw [c3] at f5; cases f5
      · rw [c2'] at e; cases e; cases c3) fun b o hb e => ht b o hb e
    have fx : wrX env [x] c := .inr ⟨x, by simp, c1, hk⟩
    refine k h' t I' ⟨⟨ns, ?_, fun y j mv g1 g2 g3 => ?_⟩, oL, bL, fun y j g1 g2 => ?_, inj, scInj⟩ ⟨fun b o hb e => ht b o (fun z => hb (z ▸ fx)) e, fun b o hb e => ?_⟩ tk
    · obtain ⟨o', es, ep, e, d⟩ := hns
      exact ⟨o', es, ep, ht _ _ (fun z => c6 z.symm) e, d⟩
    · rcases set_get g2 with ⟨z, _⟩ | ⟨_, z⟩
      · subst z
        have := scInj y x i g1 hi
        subst this
        rw [hk] at g3; cases g3
      · obtain ⟨u, u1, u2⟩ := hl y j mv g1 z g3
        exact ⟨u, u1, u2.tk tk⟩
    · obtain ⟨c', o', vo', b1, b2, b3, b4, b5, b6, b8⟩ := cells y j g1 g2
      by_cases q : y = x
      · subst q
        rw [hi] at g1; cases g1
        rw [c1] at b1; cases b1
        refine ⟨c, o1, some v, c1, e1, d1, c4, c5, c6, fun mv hm => ?_⟩
        rcases set_get hm with ⟨_, z⟩ | ⟨z, _⟩
        · cases z; exact ⟨v, rfl, rv.tk tk⟩
        · exact absurd rfl z
      · refine ⟨c', o', vo', b1, ht c' o' (fun z => ?_) b2, b3, b4, b5, b6, fun mv hm => ?_⟩
        · subst z; exact q (inj y x _ b1 c1)
        · rcases set_get hm with ⟨z, _⟩ | ⟨_, z⟩
          · subst z; exact absurd (scInj y x i g1 hi) q
          · obtain ⟨u, u1, u2⟩ := b8 mv z
            exact ⟨u, u1, u2.tk tk⟩
    · by_cases z : b = c
      · subst z; exact ⟨o1, e1⟩
      · exact ⟨o, ht b o z e⟩
noncomputable def TgtOk (nm : Nm) (sc : Sc) (x : Str) (i : Nat) : Prop := sc.lookup x = some i ∧ (nm.lookup x = some .local ∨ nm.lookup x = some .cell)
noncomputable def TgtsOk (nm : Nm) (sc : Sc) : List Str → List Nat → Prop
  | [], [] => True
  | x :: xs, i :: is => TgtOk nm sc x i ∧ TgtsOk nm sc xs is
  | _, _ => False
theorem stores_sound {M : Model} {E : Value → Shared → Prop} (S : EStat env nm) : ∀ {es : List Expr} {tn : List Str} {ti : List Nat} {ms : List MV} {vs : List Value} {loc : Loc} {h : Heap} {t : Nat} {Q : Unit → Shared → Prop},
    namesOf es = some tn → TgtsOk nm sc tn ti → ms.length = ti.length → Inv cx fs own σ h → ERel cx env sc loc own h → VRels T.sym h ms vs →
    (∀ h' t', Inv cx fs own σ h' → ERel cx env sc (setMany loc ti ms) own h' → Hid (wrX env tn) h h' → TK h h' → Q () (cx.mk' h' t')) →
    wpAny M A (assignInOrder ((assignEach es env).map (·.2)) vs) Q E (cx.mk' h t)
  | [], tn, ti, ms, vs, loc, h, t, Q, e, ok, l, I, R, rv, k => by
    obtain rfl := namesOf_nil e
    cases ti with
    | cons _ _ => exact ok.elim
    | nil =>
      cases ms with
      | cons _ _ => cases l
      | nil =>
        exact assignInOrder_nil (k h t I R (.refl _ _) (TK.refl h))
  | ex :: es, tn, ti, ms, vs, loc, h, t, Q, e, ok, l, I, R, rv, k => by
    obtain ⟨x, p, tn', rfl, e2, rfl⟩ := namesOf_cons e
    · · cases ti with
        | nil => exact ok.elim
        | cons i is =>
          obtain ⟨ok1, ok2⟩ := ok
          cases ms with
          | nil => cases l
          | cons m ms =>
            obtain ⟨v, vs', rfl, rv1, rv2⟩ := rv.cons_inv
            show wpAny M A (assignInOrder (assign (.Name x p) env :: (assignEach es env).map (·.2)) (v :: vs')) Q E (cx.mk' h t)
            refine assignInOrder_cons (wpAny_assign_Name (store_sound S I R ok1.1 ok1.2 rv1 fun h' t' I' R' H tk => ?_))
            exact stores_sound S e2 ok2 (by simpa using l) I' R' (rv2.tk tk) fun h'' t'' I'' R'' H' tk' => k h'' t'' I'' R'' ((H.mono fun a z => z.imp id fun ⟨y, hy, z⟩ => ⟨y, by simp at hy; simp [hy], z⟩).trans (H'.mono fun a z => z.imp id fun ⟨y, hy, z⟩ => ⟨y, by simp [hy], z⟩)) (tk.trans tk')
theorem names_plain {env : Env} : ∀ {es : List Expr} {tn : List Str}, namesOf es = some tn →
    (assignEach es env).length = tn.length ∧ (assignEach es env).findIdx? (·.1) = none
  | [], tn, e => by obtain rfl := namesOf_nil e; exact ⟨rfl, rfl⟩
  | ex :: es, tn, e => by
    obtain ⟨x, p, tn', rfl, e2, rfl⟩ := namesOf_cons e
    obtain ⟨a, b⟩ := names_plain (env := env) e2
    have e1 : assignEach (.Name x p :: es) env = (false, assign (.Name x p) env) :: assignEach es env := rfl
    rw [e1]
    refine ⟨by simp [a], ?_⟩
    rw [List.findIdx?_cons]
    simp only [Bool.false_eq_true, if_false, b, Option.map_none]
theorem TgtsOk.length : ∀ {tn : List Str} {ti : List Nat}, TgtsOk nm sc tn ti → tn.length = ti.length
  | [], [], _ => rfl
  | _ :: _, _ :: _, ok => by rw [List.length_cons, List.length_cons, TgtsOk.length ok.2]
  | [], _ :: _, ok => ok.elim
  | _ :: _, [], ok => ok.elim
set_option tactic.hygienic true in
theorem bind_sound (hh : A.handled = none) (S : EStat env nm) (I : Inv cx fs own σ h) (R : ERel cx env sc loc own h) {target : Expr} {tn : List Str} {ti : List Nat} {one : Bool} {m : MV} {v : Value} {K : Loc → Prop} {Q : Unit → Shared → Prop} {E : Value → Shared → Prop}
    (ht : targetNames target = some (tn, one)) (ok : TgtsOk nm sc tn ti) (rv : VRel T.sym h m v) (q : bindP ti one m loc K)
    (k : ∀ loc' h' t', K loc' → Inv cx fs own σ h' → ERel cx env sc loc' own h' → Hid (wrX env tn) h h' → TK h h' → Q () (cx.mk' h' t')) : wpAny (model cx.prog cx.w) A (assign target env v) Q E (cx.mk' h t) := by
  obtain ⟨_, q⟩ := q
  cases target with
  | Name x p =>
    cases ht
    cases ti with
    | nil => exact False.elim q
    | cons i rr =>
    cases rr with
    | cons _ _ => exact False.elim q
    | nil => exact wpAny_assign_Name (store_sound S I R ok.1.1 ok.1.2 rv fun h' t' I' R' H tk => k _ h' t' q I' R' H tk)
  | Tuple es x1 p =>
    obtain ⟨l, e, z⟩ := Option.map_eq_some_iff.mp ht
    cases z
    cases m with
    | tup xs =>
      obtain ⟨hl, q⟩ := q
      obtain ⟨a, ys, n, rfl, g, r⟩ := rv.tup_inv
      obtain ⟨z1, z2⟩ := names_plain (env := env) e
      refine wpAny_assign_Tuple (s := cx.mk' h t) hh (isTup g) (by rw [z1, ok.length, ← hl, ← r.length]; simp) z2 fun h1 hx => ?_
      have hk : ∀ b o, h.get? b = some o → h1.get? b = some o := fun b o e => hx b o (fun z => by
        have e' : h.get? h.objs.size = some o := by rw [← show b = h.objs.size from z]; exact e
        rw [get?_size] at e'; cases e') e
      obtain ⟨I1, tk1⟩ := I.grow hk
      exact stores_sound S e ok hl I1 (R.grow hk) (r.tk tk1) fun h' t' I' R' H tk => k _ h' t' q I' R' ((Hid.grow hk).trans H) (tk1.trans tk)
    | _ => exact False.elim q
  | _ => exact ns ht
end
end Mine
end
section
open PySem PySem.W PyProof.Rows PySem.Builtin.ObjectAttr
set_option maxRecDepth 20000
namespace Mine
set_option genCtorIdx false in
inductive ItK where
  | list (a : Addr)
  | tup (a : Addr)
  | range (n : Nat)
section
variable {T : Tab}
noncomputable def ItAt (k : ItK) (It : Addr) (xs rest : List MV) (h : Heap) : Prop := match k with
  | .list a => ∃ i, i ≤ xs.length ∧ h.IsListIter It a i ∧ rest = xs.drop i
  | .tup a => ∃ i ys n, i ≤ xs.length ∧ h.IsTupleIter It a i ∧ h.get? a = some (tupObj ys n) ∧ VRels T.sym h xs ys ∧ rest = xs.drop i
  | .range n => ∃ i : Nat, i ≤ n ∧ IsRangeIter h It (i : Int) ((n : Int) - i) 1 ∧ xs = ((List.range n).map fun (i : Nat) => MV.int (i : Int)) ∧ rest = xs.drop i
noncomputable def ItSt (k : ItK) (xs : List MV) (σ : Hp) : Prop := match k with
  | .list a => σ a = some (.list xs)
  | _ => True
end
section
variable {T : Tab} {cx : Cx T} {CS : CSpec} {A : Around} {fs : List Env} {r : Nat} {env : Env} {nm : Nm} {sc : Sc} {loc : Loc} {own own1 : Addr → Option Addr} {σ σ1 : Hp} {h h0 h1 h2 h' : Heap} {t : Nat} {X Y : Addr → Prop}
variable {k : ItK} {It : Addr} {xs rest : List MV}
theorem clsNe {a b : String} (n : a ≠ b) {P : Prop} (e : Value.type a = Value.type b) : P := absurd (by cases e; rfl) n
theorem ItAt.odd (a : ItAt (T := T) k It xs rest h) : Odd h It ∧ (∀ ys n, h.get? It ≠ some (tupObj ys n)) ∧ ∃ o, h.get? It = some o := by
  cases k with
  | list b =>
    obtain ⟨i, _, ⟨o, e, c, d⟩, _⟩ := a
    exact ⟨fun o' e' => (by rw [e] at e'; cases e'; rw [d]; exact ⟨fun _ _ z => (by cases z), fun _ z => (by cases z)⟩), fun ys n e' => (by rw [e] at e'; cases e'; exact clsNe (by decide) c), o, e⟩
  | tup b =>
    obtain ⟨i, _, _, _, ⟨o, e, c, d⟩, _⟩ := a
    exact ⟨fun o' e' => (by rw [e] at e'; cases e'; rw [d]; exact ⟨fun _ _ z => (by cases z), fun _ z => (by cases z)⟩), fun ys n e' => (by rw [e] at e'; cases e'; exact clsNe (by decide) c), o, e⟩
  | range n =>
    obtain ⟨i, _, e, _⟩ := a
    exact ⟨fun o' e' => (by rw [e] at e'; cases e'; exact ⟨fun _ _ z => (by cases z), fun _ z => (by cases z)⟩), fun ys n e' => clsNe (by decide) (congrArg Obj.cls (Option.some.inj (e'.symm.trans e))), _, e⟩
theorem ItAt.keep (a : ItAt (T := T) k It xs rest h) (tk : TK h h') (hk : ∀ o, h.get? It = some o → h'.get? It = some o) : ItAt (T := T) k It xs rest h' := by
  cases k with
  | list b =>
    obtain ⟨i, l, ⟨o, e, c⟩, d⟩ := a
    exact ⟨i, l, ⟨o, hk o e, c⟩, d⟩
  | tup b =>
    obtain ⟨i, ys, n, l, ⟨o, e, c⟩, g, v, d⟩ := a
    exact ⟨i, ys, n, l, ⟨o, hk o e, c⟩, tk _ _ _ g, v.tk tk, d⟩
  | range n =>
    obtain ⟨i, l, e, c⟩ := a
    exact ⟨i, l, hk _ e, c⟩
theorem drop_cons {α : Type} {xs rest : List α} {x : α} {i : Nat} (e : x :: rest = xs.drop i) : xs[i]? = some x ∧ rest = xs.drop (i + 1) := by
  have h1 : xs[i]? = some x := by rw [← List.head?_drop, ← e]; rfl
  have h2 : (xs.drop i).drop 1 = rest := by rw [← e]; rfl
  exact ⟨h1, by rw [← h2, List.drop_drop]⟩
theorem drop_nil {α : Type} {xs : List α} {i : Nat} (e : [] = xs.drop i) : xs.length ≤ i := List.drop_eq_nil_iff.mp e.symm
theorem next_sound (hh : A.handled = none) (I : Inv cx fs own σ h) (a : ItAt (T := T) k It xs rest h) (st : ItSt k xs σ) {Q : Option Value → Shared → Prop} {E : Value → Shared → Prop}
    (kend : rest = [] → ∀ h' t', (∀ b o, b ≠ It → h.get? b = some o → h'.get? b = some o) → Q none (cx.mk' h' t'))
    (kitem : ∀ x rest' v h' t', rest = x :: rest' → VRel T.sym h x v → ItAt (T := T) k It xs rest' h' → (∀ b o, b ≠ It → h.get? b = some o → h'.get? b = some o) → Q (some v) (cx.mk' h' t')) :
    wpAny (model cx.prog cx.w) A (pyNext (.ref It)) Q E (cx.mk' h t) := by
  cases k with
  | list b =>
    obtain ⟨i, l, at_, d⟩ := a
    obtain ⟨_, ys, n, g, rv⟩ := I.objs b _ st
    cases rest with
    | nil =>
      have := drop_nil d
      refine wpAny_pyNext_list_end (s := cx.mk' h t) hh at_ (isList g) ?_ fun h' hx => kend rfl h' t hx
      have := rv.length
      simp; lia
    | cons x rest' =>
      obtain ⟨d1, d2⟩ := drop_cons d
      obtain ⟨v, e, r⟩ := rv.get d1
      refine wpAny_pyNext_list_item (s := cx.mk' h t) at_ (isList g) (x := v) (by simpa using e) fun h' hx sb => kitem x rest' v h' t rfl r ⟨i + 1, ?_, hx, d2⟩ sb.extBut
      have := (List.getElem?_eq_some_iff.mp d1).1
      lia
  | tup b =>
    obtain ⟨i, ys, n, l, at_, g, rv, d⟩ := a
    cases rest with
    | nil =>
      have := drop_nil d
      refine wpAny_pyNext_tuple_end (s := cx.mk' h t) hh at_ (isTup g) ?_ fun h' hx => kend rfl h' t hx
      have := rv.length
      simp; lia
    | cons x rest' =>
      obtain ⟨d1, d2⟩ := drop_cons d
      obtain ⟨v, e, r⟩ := rv.get d1
      refine wpAny_pyNext_tuple_item (s := cx.mk' h t) at_ (isTup g) (x := v) (by simpa using e) fun h' hx sb => ?_
      have bne : b ≠ It := fun z => by
        obtain ⟨o, e', c, _⟩ := at_
        have g' : h.get? It = some (tupObj ys n) := z ▸ g
        have e'' : h.get? It = some o := e'
        rw [g'] at e''; cases e''; exact clsNe (by decide) c
      have tk : TK h h' := fun c us m e => sb.extBut c _ (fun z => by
        obtain ⟨o, e', cc, _⟩ := at_
        have e'' : h.get? It = some o := e'
        rw [z] at e; rw [e''] at e; cases e; exact clsNe (by decide) cc) e
      refine kitem x rest' v h' t rfl r ⟨i + 1, ys, n, ?_, hx, sb.extBut b _ bne g, rv.tk tk, d2⟩ sb.extBut
      have := (List.getElem?_eq_some_iff.mp d1).1
      lia
  | range n =>
    obtain ⟨i, l, e, ex, d⟩ := a
    subst ex
    cases rest with
    | nil =>
      have := drop_nil d
      refine wpAny_pyNext_range_end (s := cx.mk' h t) hh e ?_ fun h' hx => kend rfl h' t hx
      simp at this; lia
    | cons x rest' =>
      obtain ⟨d1, d2⟩ := drop_cons d
      have hi := (List.getElem?_eq_some_iff.mp d1).1
      simp only [List.length_map, List.length_range] at hi
      have hx : x = .int (i : Int) := by
        rw [List.getElem?_map, List.getElem?_range hi] at d1
        simpa using d1.symm
      subst hx
      refine wpAny_pyNext_range_item (s := cx.mk' h t) e (by lia) fun h' hx sb => kitem _ rest' _ h' _ rfl (.mk_int _ _) ⟨i + 1, by lia, ?_, rfl, d2⟩ sb.extBut
      have e1 : ((i + 1 : Nat) : Int) = (i : Int) + 1 := by lia
      have e2 : (n : Int) - ((i + 1 : Nat) : Int) = (n : Int) - i - 1 := by lia
      rw [e2, e1]; exact hx
theorem self_sound (a : ItAt (T := T) k It xs rest h) {Q : Value → Shared → Prop} {E : Value → Shared → Prop} (q : Q (.ref It) (cx.mk' h t)) : wpAny (model cx.prog cx.w) A (pyIter (.ref It)) Q E (cx.mk' h t) := by
  cases k with
  | list b => obtain ⟨i, l, at_, d⟩ := a; exact wpAny_pyIter_listiter (s := cx.mk' h t) at_ q
  | tup b => obtain ⟨i, ys, n, l, at_, g, rv, d⟩ := a; exact wpAny_pyIter_tupleiter (s := cx.mk' h t) at_ q
  | range n => obtain ⟨i, l, e, ex, d⟩ := a; exact wpAny_pyIter_rangeiter (s := cx.mk' h t) e q
theorem notOwnedList : ∀ n : String, (n = "list_iterator" ∨ n = "tuple_iterator" ∨ n = "range_iterator") → (["enumerate", "zip", "dict_itemiterator", "dict_reverseitemiterator", "odict_iterator", "itertools.zip_longest", "itertools.pairwise"].contains n) = false := by
  rintro n (rfl | rfl | rfl) <;> decide
theorem go_sound {target : Expr} {v : Value} (a : ItAt (T := T) k It xs rest h) {Q : Unit → Shared → Prop} {E : Value → Shared → Prop} (q : Q () (cx.mk' h t)) : wpAny (model cx.prog cx.w) A (letOwnedTupleGo target (.ref It) v) Q E (cx.mk' h t) := by
  obtain ⟨o, n, vs, ho, hc, hd, hn⟩ : ∃ o n vs, h.get? It = some o ∧ o.cls = .type n ∧ o.data = .fields vs ∧ (n = "list_iterator" ∨ n = "tuple_iterator" ∨ n = "range_iterator") := by
    cases k with
    | list b => obtain ⟨i, l, ⟨o, e, c, d'⟩, d⟩ := a; exact ⟨o, _, _, e, c, d', .inl rfl⟩
    | tup b => obtain ⟨i, ys, n, l, ⟨o, e, c, d'⟩, g, rv, d⟩ := a; exact ⟨o, _, _, e, c, d', .inr (.inl rfl)⟩
    | range n => obtain ⟨i, l, e, ex, d⟩ := a; exact ⟨_, _, _, e, rfl, rfl, .inr (.inr rfl)⟩
  have go : ∀ v : Value, wpAny (model cx.prog cx.w) A (do
      let (.ref r, .ref a) := ((Value.ref It, v) : Value × Value) | (pure () : Sem Unit)
      let o ← load r
      match o.cls, o.data with
      | .type n, .fields vs =>
        if ["enumerate", "zip", "dict_itemiterator", "dict_reverseitemiterator", "odict_iterator", "itertools.zip_longest", "itertools.pairwise"].contains n && vs[0]? == some (rawInt a) then
          rule "for.unpacks-the-owned-tuple"
          updateField r 0 .none
      | _, _ => pure ()) Q E (cx.mk' h t) := fun v => by
    cases v with
    | ref a =>
      refine wpAny_bind (wpAny_load (s := cx.mk' h t) ho ?_)
      rw [hc, hd]
      simp only [notOwnedList n hn, Bool.false_and, Bool.false_eq_true, if_false]
      exact wpAny_pure q
    | _ => exact wpAny_pure q
  cases target with
  | Tuple es x p => exact go v
  | List es p => exact go v
  | _ => exact wpAny_pure q
end
end Mine
end
section
open PySem PySem.W PyProof.Rows PySem.Builtin.ObjectAttr
set_option maxRecDepth 20000
namespace Mine
theorem clos_go (env : Env) : ∀ (names : Nm) (cs0 : List (Str × Addr)), (∀ x ∈ names, x.2 = .free → ∃ c, env.cells.lookup x.1 = some c) →
    ∃ cl, (forIn names cs0 fun (x : Str × NameKind) (cs : List (Str × Addr)) => (do if x.2 == .free then let a ← cellOf env x.1; pure (ForInStep.yield ((x.1, a) :: cs)) else pure (ForInStep.yield cs) : Sem (ForInStep (List (Str × Addr))))) = pure cl ∧
      (∀ p ∈ cl, p ∈ cs0 ∨ env.cells.lookup p.1 = some p.2) ∧ (∀ p ∈ cs0, p ∈ cl) ∧ ∀ n, (n, NameKind.free) ∈ names → ∃ c, (n, c) ∈ cl
  | [], cs0, _ => ⟨cs0, rfl, fun p h => .inl h, fun p h => h, fun n h => by cases h⟩
  | (n, k) :: rest, cs0, hf => by
    by_cases hk : k = .free
    · subst hk
      obtain ⟨c, hc⟩ := hf (n, .free) (by simp) rfl
      obtain ⟨cl, e, h1, h2, h3⟩ := clos_go env rest ((n, c) :: cs0) fun x hx => hf x (List.mem_cons_of_mem _ hx)
      refine ⟨cl, ?_, fun p hp => ?_, fun p hp => h2 p (List.mem_cons_of_mem _ hp), fun m hm => ?_⟩
      · rw [List.forIn_cons, ← e]
        have : cellOf env n = pure c := by unfold cellOf; rw [hc]
        simp only [beq_self_eq_true, if_true, this]
        rfl
      · rcases h1 p hp with z | z
        · rcases List.mem_cons.mp z with rfl | z
          · exact .inr hc
          · exact .inl z
        · exact .inr z
      · rcases List.mem_cons.mp hm with z | z
        · cases z; exact ⟨c, h2 _ (by simp)⟩
        · exact h3 m z
    · obtain ⟨cl, e, h1, h2, h3⟩ := clos_go env rest cs0 fun x hx => hf x (List.mem_cons_of_mem _ hx)
      refine ⟨cl, ?_, h1, h2, fun m hm => ?_⟩
      · rw [List.forIn_cons, ← e]
        have : (k == NameKind.free) = false := by simpa using hk
        simp only [this, Bool.false_eq_true, if_false]
        rfl
      · rcases List.mem_cons.mp hm with z | z
        · cases z; exact absurd rfl hk
        · exact h3 m z
theorem clos_of (env : Env) (scope : Scope) (hf : ∀ x ∈ scope.names, x.2 = .free → ∃ c, env.cells.lookup x.1 = some c) :
    ∃ cl, closureFor scope env = pure cl ∧ (∀ p ∈ cl, env.cells.lookup p.1 = some p.2) ∧ ∀ n, (n, NameKind.free) ∈ scope.names → ∃ c, (n, c) ∈ cl := by
  obtain ⟨cl, e, h1, _, h3⟩ := clos_go env scope.names [] hf
  refine ⟨cl, ?_, fun p hp => (h1 p hp).resolve_left (by simp), h3⟩
  unfold closureFor
  rw [← bind_pure (pure cl : Sem (List (Str × Addr))), ← e]
noncomputable def SrcOk (K : Frag) (sy : List Str) (nm : Nm) (sc : Sc) (k : SrcK) (e1 e2 : ME) (iter : Expr) : Prop := match k with
  | .exp => e2 = .none ∧ chkE K sy nm sc e1 iter = true
  | .range => e2 = .none ∧ ∃ x p y pos, iter = .Call (.Name x p) [y] [] pos ∧ nm.lookup x = some .globalImplicit ∧ (x == ("__debug__" : Str)) = false ∧ globIs K x (.type "range") = true ∧ chkE K sy nm sc e1 y = true
section
variable {T : Tab} {cx : Cx T} {CS : CSpec} {A : Around} {fs : List Env} {r : Nat} {env : Env} {nm : Nm} {sc : Sc} {loc : Loc} {own own1 : Addr → Option Addr} {σ σ1 : Hp} {h h0 h1 h2 h' : Heap} {t : Nat} {X Y : Addr → Prop}
structure Ready (cx : Cx T) (fs : List Env) (own0 : Addr → Option Addr) (h0 : Heap) (kk : ItK) (It : Addr) (xs : List MV) (own : Addr → Option Addr) (σ : Hp) (h : Heap) : Prop where
  inv : Inv cx fs own σ h
  ext : OwnExt own0 own h0
  keep : Keep fs own0 noX h0 h
  new : h0.get? It = none
  ownI : own It = none
  baseI : cx.base.get? It = none
  fr : ¬ frameAddr fs It
  at_ : ItAt (T := T) kk It xs xs h
theorem notFrame_new (I : Inv cx fs own σ h) {a : Addr} (e : h.get? a = none) : ¬ frameAddr fs a := fun z => by
  obtain ⟨ev, hm, hf⟩ := z
  obtain ⟨L, o, es, n, f1, f2, f3, f4, f5, f7⟩ := I.frames ev hm
  rw [hf] at f1; cases f1
  rw [e] at f4; cases f4
theorem ready_new (I : Inv cx fs own σ h) (H : Inv cx fs own1 σ1 h1) (x : OwnExt own own1 h) (k : Keep fs own noX h h1) {o : Obj} {kk : ItK} {xs : List MV}
    (a : ItAt (T := T) kk h1.objs.size xs xs (h1.push o)) : Ready cx fs own h kk h1.objs.size xs own1 σ1 (h1.push o) := by
  obtain ⟨I', k'⟩ := H.push_any o
  have e := get?_size h1
  refine ⟨I', x, k.trans x k', ?_, (H.fresh e).2, base_size H, notFrame_new H e, a⟩
  cases q : h.get? h1.objs.size with
  | none => rfl
  | some o' =>
    obtain ⟨o'', e'⟩ := k.live _ _ q
    rw [e] at e'; cases e'
inductive SrcPost (cx : Cx T) (fs : List Env) (own : Addr → Option Addr) (h : Heap) (F : List MV → (Hp → Prop) → Prop) (v : Value) (s : Shared) : Prop where
  | mk (It : Addr) (kk : ItK) (xs : List MV) (st : Hp → Prop) (own' : Addr → Option Addr) (σ' : Hp) (h' : Heap) (t' : Nat) (ev : v = .ref It) (e : s = cx.mk' h' t') (R : Ready cx fs own h kk It xs own' σ' h') (k : ∀ σ, st σ → ItSt kk xs σ) (f : F xs st)
set_option tactic.hygienic true in
theorem src_sound {e1 e2 : ME} (s1 : SndE cx CS e1) {k : SrcK} {iter : Expr} (ok : SrcOk cx.K T.sym nm sc k e1 e2 iter) (H : Here cx A fs r env nm sc loc own σ h) {E : MV → Hp → Prop} {F : Hp → List MV → (Hp → Prop) → Prop}
    (q : ewp T CS r e1 loc σ (fun v1 σ1 => ewp T CS r e2 loc σ1 (fun v2 σ2 => srcP k v1 v2 σ2 (F σ2)) E) E) {R : Value → Shared → Prop}
    (hR : ∀ It kk xs st own' σ' h' t', Ready cx fs own h kk It xs own' σ' h' → (∀ σ, st σ → ItSt kk xs σ) → F σ' xs st → R (.ref It) (cx.mk' h' t')) :
    wpAny (model cx.prog cx.w) A (eval iter env) (fun v s => wpAny (model cx.prog cx.w) A (pyIter v) R (Pst cx fs noX own h (EQ E)) s) (Pst cx fs noX own h (EQ E)) (cx.mk' h t) := by
  cases k with
  | exp =>
    obtain ⟨rfl, c⟩ := ok
    refine wpAny_seq (s1 nm sc iter c A fs r env loc own σ h t _ E H q) (fun _ _ e => e) fun v own1 σ1 h1 t1 I x k p => ?_
    obtain ⟨m, rv, p⟩ := p
    rw [e_none] at p
    cases m with
    | tup xs =>
      obtain ⟨a, ys, n, rfl, g, rs⟩ := rv.tup_inv
      refine wpAny_pyIter_tuple (s := cx.mk' h1 t1) (isTup g) (hR _ (.tup a) xs _ _ _ _ _ (ready_new H.inv I x k ⟨0, ys, n, Nat.zero_le _, ⟨_, Heap.get?_push_size h1 rfl, rfl, rfl⟩, Heap.get?_push_of_some _ g, rs.tk ?_, rfl⟩) (fun _ _ => trivial) p)
      exact fun c us m e => Heap.get?_push_of_some _ e
    | ref a =>
      obtain ⟨xs, hs, p⟩ := p
      obtain rfl := rv.ref_inv
      obtain ⟨_, ys, n, g, rs⟩ := I.objs a _ hs
      exact wpAny_pyIter_list (s := cx.mk' h1 t1) (isList g) (hR _ (.list a) xs _ _ _ _ _ (ready_new H.inv I x k ⟨0, Nat.zero_le _, ⟨_, Heap.get?_push_size h1 rfl, rfl, rfl⟩, rfl⟩) (fun _ z => z) p)
    | _ => exact False.elim p
  | range =>
    obtain ⟨rfl, y, py, e, pos, rfl, c1, c2, c3, c4⟩ := ok
    refine wpAny_Call_NameR (name_glob H.inv H.stat (by rw [H.stat.kindOf]; exact c1) c2 c3 ?_)
    have e1 : backTo pos (starEach [e] env) = [(false, eval e env)] := by
      have := starEach_chk (cx := cx) (ms := [e1]) (es := [e]) (nm := nm) (sc := sc) (Bool.and_eq_true_iff.mpr ⟨c4, rfl⟩) env pos
      exact this
    rw [e1]
    refine PySem.callWith_type rfl (Calls.evalArgs_plain (Calls.spliced_cons ?_))
    refine wpAny_seq (s1 nm sc e c4 A fs r env loc own σ h t _ E H q) (fun _ _ e => e) fun v own1 σ1 h1 t1 I x k p => Calls.spliced_nil ?_
    obtain ⟨m, rv, p⟩ := p
    rw [e_none] at p
    cases m with
    | int n =>
      obtain ⟨tk, rfl⟩ := rv.int_inv
      obtain ⟨⟨hlo, hhi⟩, p⟩ := p
      refine call_range_1 ?_
      refine wpAny_pyIter_range (IsRange.new ..) (small_one (by decide) (by decide) hlo hhi) ?_
      have hsz : Builtin.Range.rangeSize 0 n 1 = (n.toNat : Int) := by rw [rangeSize_one]; split <;> lia
      obtain ⟨I', k'⟩ := I.push_any { cls := .type "range", data := .fields #[.int 0 t1, .int n tk, .int 1 (t1 + 1)] }
      refine hR _ (.range n.toNat) _ _ own1 σ1 _ _ (ready_new H.inv I' x (k.trans x k') ⟨0, Nat.zero_le _, ?_, rfl, rfl⟩) (fun _ _ => trivial) p
      have e2 : (((n.toNat : Nat) : Int) - ((0 : Nat) : Int)) = Builtin.Range.rangeSize 0 n 1 := by rw [hsz]; simp
      rw [e2]
      exact Heap.get?_push_size _ rfl
    | _ => exact False.elim p
end
end Mine
end
section
open PySem PySem.W PyProof.Rows PySem.Builtin.ObjectAttr
set_option maxRecDepth 20000
namespace Mine
section
variable {prog : Program} {w : World} {A : Around} {R : Result → Shared → Prop} {s : Shared}
theorem compLoop_any {elt target iter : Expr} {ifs : List Expr} {scope : Scope} {pos : Pos} {it acc : Value} {env : Env} (I : Nat → Shared → Prop)
    (turn : ∀ n s, I n s → wpAny (model prog w) A (pyNext it) (fun r s₁ => match r with
      | none => R (.ok .next) s₁
      | some v => wpAny (model prog w) A (letOwnedTupleGo target it v) (fun _ s₁' => wpAny (model prog w) A (assign target env v) (fun _ s₂ =>
          wpAny (model prog w) A (forIn ifs true fun c r => if r = true then do let ok ← isTrue c env (eval c env); pure (ForInStep.yield ok) else pure (ForInStep.yield r)) (fun ok s₃ =>
            if ok = true then wpAny (model prog w) A (eval elt env) (fun x s₄ =>
              wpAny (model prog w) A (call (.builtin "list.append") [acc, x]) (fun _ s₅ => ∃ m, m < n ∧ I m s₅) (notedBy (model prog w) A env fun e s' => R (.error e) s') s₄) (notedBy (model prog w) A env fun e s' => R (.error e) s') s₃
            else ∃ m, m < n ∧ I m s₃) (notedBy (model prog w) A env fun e s' => R (.error e) s') s₂) (notedBy (model prog w) A env fun e s' => R (.error e) s') s₁') (notedBy (model prog w) A env fun e s' => R (.error e) s') s₁) (notedBy (model prog w) A env fun e s' => R (.error e) s') s)
    (n : Nat) (h : I n s) :
    codeAny (model prog w) A (.compLoop (.ListComp elt [⟨target, iter, ifs, 0⟩] scope pos) 0 it acc env) R s := by
  refine codeAny_loop rfl I (fun n s hI => ?_) n h
  show wpAny _ A ((compTurn (.ListComp elt [⟨target, iter, ifs, 0⟩] scope pos) 0 it acc env).onRaise (fun x => do noteFrame x env; theTreesLotGoes x)) _ _ s
  refine wpAny_noted ?_
  rw [compTurn_list]
  refine wpAny_bind (wpAny_standAt (wpAny_bind (wpAny_mono (turn n s hI) (fun r s₁ h₁ => ?_) fun _ _ h' => h')))
  cases r with
  | none => exact wpAny_pure h₁
  | some v =>
    refine wpAny_bind (wpAny_mono h₁ (fun _ s₁' h₁' => ?_) fun _ _ h' => h')
    refine wpAny_bind (wpAny_mono h₁' (fun _ s₂ h₂ => wpAny_bind (wpAny_mono h₂ (fun ok s₃ h₃ => ?_) fun _ _ h' => h')) fun _ _ h' => h')
    cases ok with
    | false => exact wpAny_pure ⟨rfl, h₃⟩
    | true =>
      exact wpAny_bind (wpAny_bind (wpAny_mono h₃ (fun x s₄ h₄ => wpAny_bind (wpAny_mono h₄ (fun _ s₅ h₅ => wpAny_pure (wpAny_pure ⟨rfl, h₅⟩)) fun _ _ h' => h')) fun _ _ h' => h'))
end
theorem compNm_lookup (names nm : Nm) (x : Str) : (compNm names nm).lookup x = (names.lookup x).map fun k => if (k == .free && nm.lookup x == some .cell) then .cell else k := by
  unfold compNm
  induction names with
  | nil => rfl
  | cons p r ih =>
    obtain ⟨n, k⟩ := p
    rw [List.map_cons, List.lookup_cons]
    by_cases q : x = n
    · subst q
      by_cases c : (k == NameKind.free && nm.lookup x == some .cell) = true
      · rw [if_pos c]; simp only [List.lookup_cons, beq_self_eq_true, Option.map_some, if_pos c]
      · rw [if_neg c]; simp only [List.lookup_cons, beq_self_eq_true, Option.map_some, if_neg c]
    · have e : (x == n) = false := by simpa using q
      by_cases c : (k == NameKind.free && nm.lookup n == some .cell) = true
      · rw [if_pos c]; simp only [List.lookup_cons, e]; exact ih
      · rw [if_neg c]; simp only [List.lookup_cons, e]; exact ih
theorem lookup_mem {α β : Type} [BEq α] [LawfulBEq α] {l : List (α × β)} {x : α} {y : β} (e : l.lookup x = some y) : (x, y) ∈ l := by
  induction l with
  | nil => cases e
  | cons p r ih =>
    obtain ⟨a, b⟩ := p
    rw [List.lookup_cons] at e
    by_cases q : x = a
    · subst q; simp at e; subst e; simp
    · have e' : (x == a) = false := by simpa using q
      rw [e'] at e
      exact List.mem_cons_of_mem _ (ih e)
theorem mem_lookup {α β : Type} [BEq α] [LawfulBEq α] {l : List (α × β)} {x : α} {y : β} (e : (x, y) ∈ l) : ∃ z, l.lookup x = some z := by
  induction l with
  | nil => cases e
  | cons p r ih =>
    obtain ⟨a, b⟩ := p
    rw [List.lookup_cons]
    by_cases q : x = a
    · subst q; simp
    · have e' : (x == a) = false := by simpa using q
      rw [e']
      rcases List.mem_cons.mp e with z | z
      · cases z; exact absurd rfl q
      · exact ih z
theorem snd_inj {l : List (Str × Nat)} (nd : (l.map (·.2)).Nodup) {x y : Str} {i : Nat} (e : l.lookup x = some i) (e' : l.lookup y = some i) : x = y := by
  have m1 := lookup_mem e
  have m2 := lookup_mem e'
  induction l with
  | nil => cases m1
  | cons p r ih =>
    rw [List.map_cons, List.nodup_cons] at nd
    rcases List.mem_cons.mp m1 with z | z <;> rcases List.mem_cons.mp m2 with z' | z'
    · rw [← z'] at z; cases z; rfl
    · subst z; exact absurd (List.mem_map.mpr ⟨_, z', rfl⟩) nd.1
    · subst z'; exact absurd (List.mem_map.mpr ⟨_, z, rfl⟩) nd.1
    · obtain ⟨u, hu⟩ := mem_lookup z
      obtain ⟨u', hu'⟩ := mem_lookup z'
      clear ih
      exact nodup_aux nd.2 z z'
where nodup_aux : ∀ {r : List (Str × Nat)}, (r.map (·.2)).Nodup → ∀ {x y : Str} {i : Nat}, (x, i) ∈ r → (y, i) ∈ r → x = y
  | [], _, _, _, _, z, _ => by cases z
  | p :: r, nd, x, y, i, z, z' => by
    rw [List.map_cons, List.nodup_cons] at nd
    rcases List.mem_cons.mp z with q | q <;> rcases List.mem_cons.mp z' with q' | q'
    · rw [← q'] at q; cases q; rfl
    · subst q; exact absurd (List.mem_map.mpr ⟨_, q', rfl⟩) nd.1
    · subst q'; exact absurd (List.mem_map.mpr ⟨_, q, rfl⟩) nd.1
    · exact nodup_aux nd.2 q q'
noncomputable def clear (loc : Loc) (ti : List Nat) : Loc := ti.foldl (fun l i => l.set i none) loc
theorem clear_length : ∀ (ti : List Nat) (loc : Loc), (clear loc ti).length = loc.length
  | [], _ => rfl
  | i :: is, loc => by unfold clear; rw [List.foldl_cons]; exact (clear_length is (loc.set i none)).trans (by simp)
theorem clear_other : ∀ (ti : List Nat) (loc : Loc) (j : Nat), j ∉ ti → (clear loc ti)[j]? = loc[j]?
  | [], _, _, _ => rfl
  | i :: is, loc, j, h => by
    unfold clear; rw [List.foldl_cons]
    refine (clear_other is (loc.set i none) j fun z => h (List.mem_cons_of_mem _ z)).trans ?_
    rw [List.getElem?_set, if_neg fun z => h (by simp [z])]
theorem clear_in : ∀ (ti : List Nat) (loc : Loc) (j : Nat) (mv : MV), (clear loc ti)[j]? = some (some mv) → loc[j]? = some (some mv) ∧ j ∉ ti
  | [], _, _, _, e => ⟨e, by simp⟩
  | i :: is, loc, j, mv, e => by
    unfold clear at e; rw [List.foldl_cons] at e
    obtain ⟨a, b⟩ := clear_in is (loc.set i none) j mv e
    rcases set_get a with ⟨_, z⟩ | ⟨z, z'⟩
    · cases z
    · exact ⟨z', fun q => by rcases List.mem_cons.mp q with q | q; exact z q.symm; exact b q⟩
theorem setMany_other : ∀ (ti : List Nat) (xs : List MV) (loc : Loc) (j : Nat), j ∉ ti → (setMany loc ti xs)[j]? = loc[j]?
  | [], _, _, _, _ => rfl
  | i :: is, [], _, _, _ => rfl
  | i :: is, x :: xs, loc, j, h => by
    refine (setMany_other is xs _ j fun z => h (List.mem_cons_of_mem _ z)).trans ?_
    rw [List.getElem?_set, if_neg fun z => h (by simp [z])]
theorem setMany_eq : ∀ (ti : List Nat) (xs : List MV) (loc loc2 : Loc), xs.length = ti.length → loc.length = loc2.length → (∀ j, j ∉ ti → loc[j]? = loc2[j]?) → setMany loc ti xs = setMany loc2 ti xs
  | [], [], loc, loc2, _, hl, h => List.ext_getElem? fun j => h j (by simp)
  | i :: is, x :: xs, loc, loc2, e, hl, h => by
    refine setMany_eq is xs _ _ (by simpa using e) (by simpa using hl) fun j hj => ?_
    rw [List.getElem?_set, List.getElem?_set]
    by_cases q : i = j
    · subst q; simp [hl]
    · rw [if_neg q, if_neg q]; exact h j (by simp [Ne.symm q, hj])
  | [], _ :: _, _, _, e, _, _ => by cases e
  | _ :: _, [], _, _, e, _, _ => by cases e
set_option tactic.hygienic true in
theorem bindP_clear {ti : List Nat} {one : Bool} {x : MV} {loc : Loc} {K : Loc → Prop} (q : bindP ti one x loc K) :
    bindP ti one x (clear loc ti) fun loc' => K loc' ∧ ∀ (j : Nat) (mv : MV), (clear loc ti)[j]? = some (some mv) → loc'[j]? = some (some mv) := by
  obtain ⟨q0, q⟩ := q
  refine ⟨fun i hi => by rw [clear_length]; exact q0 i hi, ?_⟩
  cases one with
  | true =>
    cases ti with
    | nil => exact False.elim q
    | cons i rr =>
      cases rr with
      | cons _ _ => exact False.elim q
      | nil =>
      have e : (clear loc [i]).set i (some x) = loc.set i (some x) := setMany_eq [i] [x] (clear loc [i]) loc rfl (clear_length _ _) fun j hj => clear_other _ _ _ hj
      refine ⟨by rw [e]; exact q, fun j mv hj => ?_⟩
      obtain ⟨_, b⟩ := clear_in _ _ _ _ hj
      rw [List.getElem?_set, if_neg fun z => b (by simp [z])]; exact hj
  | false =>
    cases x with
    | tup xs =>
      obtain ⟨hl, q⟩ := q
      have e := setMany_eq ti xs (clear loc ti) loc hl (clear_length _ _) fun j hj => clear_other _ _ _ hj
      refine ⟨hl, by rw [e]; exact q, fun j mv hj => ?_⟩
      obtain ⟨_, b⟩ := clear_in _ _ _ _ hj
      rw [setMany_other _ _ _ _ b]; exact hj
    | _ => exact False.elim q
section
variable {T : Tab} {cx : Cx T} {CS : CSpec} {A : Around} {fs : List Env} {r : Nat} {env : Env} {nm : Nm} {sc : Sc} {loc loc2 : Loc} {own own1 : Addr → Option Addr} {σ σ1 : Hp} {h h0 h1 h2 h' : Heap} {t : Nat} {X Y : Addr → Prop}
theorem ERel.weaken (R : ERel cx env sc loc own h) (hw : ∀ (i : Nat) (mv : MV), loc2[i]? = some (some mv) → loc[i]? = some (some mv)) : ERel cx env sc loc2 own h := by
  obtain ⟨⟨m, ns, l⟩, oL, bL, cells, inj, scInj⟩ := R
  refine ⟨⟨m, ns, fun x i mv h1 h2 h3 => l x i mv h1 (hw i mv h2) h3⟩, oL, bL, fun x i h1 h2 => ?_, inj, scInj⟩
  obtain ⟨c, o, vo, c1, c2, c3, c4, c5, c6, c8⟩ := cells x i h1 h2
  exact ⟨c, o, vo, c1, c2, c3, c4, c5, c6, fun mv hm => c8 mv (hw i mv hm)⟩
theorem append_at {D : Addr} {ys : List Value} {n : Nat} {x : Value} {Q : Value → Shared → Prop} {E : Value → Shared → Prop} (g : h.get? D = some (listOf ys.toArray n)) (hs : ys.length ≤ lineL)
    (k : ∀ h' n', h'.get? D = some (listOf (ys ++ [x]).toArray n') → (∀ b o, b ≠ D → h.get? b = some o → h'.get? b = some o) → Q .none (cx.mk' h' t)) :
    wpAny (model cx.prog cx.w) A (call (.builtin "list.append") [.ref D, x]) Q E (cx.mk' h t) := by
  refine call_meets (s := cx.mk' h t) F.slot_list_append ⟨_, g, rfl⟩ F.entry_list_append (F.args_list_append_2 _ _) (list_append D ys.toArray n x (by simp; exact hs)) ⟨g, ?_⟩
  have g' := Heap.get?_update_self (Obj.mapSeq fun xs => xs.push x) g rfl
  have e : ys.toArray.push x = (ys ++ [x]).toArray := by simp
  refine k _ (if (ys.toArray.push x).size == ys.toArray.size then n else n + 1) ?_ fun b o nb e => (Heap.get?_update_other _ _ (Ne.symm nb)).trans e
  rw [← e]; exact g'
theorem Inv.sNone (I : Inv cx fs own σ h) {a : Addr} (n : own a = none) (b : cx.base.get? a = none) : σ a = none := by
  cases q : σ a with
  | none => rfl
  | some o =>
    obtain ⟨x, y⟩ := I.objs' a o q
    rw [n] at x
    have x := x.resolve_left (by intro z; cases z)
    cases o with
    | frz ns =>
      obtain ⟨vs, ⟨o, g, _⟩, _⟩ := y
      rw [g] at b; cases b
    | _ => exact (Bool.false_ne_true x).elim
theorem Inv.adopt (I : Inv cx fs own σ h) {a : Addr} {mo : MObj} {o : Obj} (n : own a = none) (hb : cx.base.get? a = none) (hf : ¬ frameAddr fs a) (e : h.get? a = some o) (c : o.cls ≠ .type "tuple") (ho : ORel cx (ownNew own a) h a mo) :
    Inv cx fs (ownNew own a) (σ.put a mo) h := by
  refine ⟨I.base, fun b x q => ?_, fun b x q => ?_, fun b mo' q => ?_, fun ev hm => ?_⟩
  · unfold ownNew at q
    by_cases z : b = a
    · subst z; exact ⟨hb, o, e, c⟩
    · rw [if_neg z] at q; exact I.ownd b x q
  · unfold ownNew at q ⊢
    by_cases z : b = a
    · rw [if_pos z] at q; cases q; rw [if_pos rfl]
    · rw [if_neg z] at q
      have := I.ownr b x q
      by_cases z' : x = a
      · subst z'; rw [n] at this; cases this
      · rw [if_neg z']; exact this
  · unfold Hp.put at q
    by_cases z : b = a
    · subst z
      rw [if_pos rfl] at q; cases q
      exact ⟨.inl (by unfold ownNew; rw [if_pos rfl]), ho⟩
    · rw [if_neg z] at q
      refine I.objK q (TK.refl h) (fun c x q => ?_) (fun c e => ?_) (fun _ _ _ e => e)
      · unfold ownNew
        by_cases z : c = a
        · subst z; rw [n] at q; cases q
        · rw [if_neg z]; exact q
      · unfold ownNew at e
        by_cases z' : c = a
        · rw [if_pos z'] at e; exact absurd (Option.some.inj e).symm z
        · rw [if_neg z'] at e; exact e
  · obtain ⟨L, o', es, m, f1, f2, f3, f4, f5, f7⟩ := I.frames ev hm
    refine ⟨L, o', es, m, f1, f2, ?_, f4, f5, f7⟩
    unfold ownNew
    rw [if_neg (show L ≠ a from fun z => hf ⟨ev, hm, z ▸ f1⟩)]; exact f3
theorem Keep.odd {a : Addr} {o : Obj} (k : Keep fs own noX h h') (e : h.get? a = some o) (n : own a = none) (hf : ¬ frameAddr fs a) : h'.get? a = some o := by
  rcases k.same a o e n (fun z => z) with z | ⟨z, _⟩
  · exact z
  · exact absurd z hf
theorem folded_not_set {iter : Expr} (e : isSet iter = false) (env : Env) (x : Value) : foldedSetIterable iter env x = pure x := by
  cases iter <;> first | rfl | cases e
end
end Mine
end
section
open PySem PySem.W PyProof.Rows PySem.Builtin.ObjectAttr
set_option maxRecDepth 20000
namespace Mine
section
variable {T : Tab} {cx : Cx T} {CS : CSpec} {A : Around} {fs : List Env} {r : Nat} {env : Env} {nm : Nm} {sc : Sc} {loc loc2 : Loc} {own own1 : Addr → Option Addr} {σ σ1 : Hp} {h h0 h1 h2 h' : Heap} {t : Nat} {X Y : Addr → Prop}
theorem stat_comp (S : EStat env nm) {scope : Scope} (hk : scope.kind = .function) {cl : List (Str × Addr)} {C : Addr} : EStat (compEnvC scope cl C env) (compNm scope.names nm) := by
  refine ⟨?_, hk, S.globals, S.builtins⟩
  show (relabel scope env).names = _
  unfold relabel compNm
  have e : (env.scope.kind == ScopeKind.function) = true := by rw [S.kind]; rfl
  simp only [e, Bool.and_true, S.kindOf]
structure CompChk (cx : Cx T) (nm : Nm) (sc : Sc) (names : Nm) (tn : List Str) (ti : List Nat) : Prop where
  len : tn.length = ti.length
  nocell : ∀ x ∈ names, x.2 ≠ .cell
  loc : ∀ x ∈ names, x.2 = .local → names.lookup x.1 = some .local
  free : ∀ x ∈ names, x.2 = .free → (nm.lookup x.1 = some .cell ∨ nm.lookup x.1 = some .free) ∧ ∃ i, sc.lookup x.1 = some i
  nd : ((compSc names tn ti sc).map (·.2)).Nodup
  all : ∀ x ∈ compSc names tn ti sc, (x.2 ∈ ti ∧ names.lookup x.1 = some .local) ∨ ((x.1, NameKind.free) ∈ names ∧ names.lookup x.1 = some .free ∧ sc.lookup x.1 = some x.2)
  tgt : ∀ x ∈ tn.zip ti, (compSc names tn ti sc).lookup x.1 = some x.2 ∧ names.lookup x.1 = some .local
theorem compChk_of {names : Nm} {tn : List Str} {ti : List Nat} (c : compOk names nm tn ti sc = true) : CompChk cx nm sc names tn ti := by
  unfold compOk at c
  simp only [Bool.and_eq_true, List.all_eq_true, Bool.or_eq_true, beq_iff_eq, bne_iff_ne, decide_eq_true_eq, List.contains_iff_mem, List.any_eq_true, Option.isSome_iff_exists] at c
  obtain ⟨⟨⟨⟨⟨⟨c1, c2⟩, c3⟩, c4⟩, c5⟩, c6⟩, c7⟩ := c
  refine ⟨c1, fun x hx => (c2 x hx).1, fun x hx e => ((c2 x hx).2).resolve_left (fun z => z e), fun x hx e => (c3 x hx).resolve_left (fun z => z e), c4, fun x hx => ?_, c7⟩
  rcases c6 x hx with z | z
  · exact .inl z
  · obtain ⟨⟨⟨y, hy, e1, e2⟩, z2⟩, z3⟩ := z
    exact .inr ⟨by rw [← e1, ← e2]; exact hy, z2, z3⟩
theorem tgts_of {nm' : Nm} {sc' : Sc} : ∀ {tn : List Str} {ti : List Nat}, tn.length = ti.length → (∀ x ∈ tn.zip ti, sc'.lookup x.1 = some x.2 ∧ (nm'.lookup x.1 = some .local ∨ nm'.lookup x.1 = some .cell)) → TgtsOk nm' sc' tn ti
  | [], [], _, _ => trivial
  | x :: xs, i :: is, l, h => ⟨h (x, i) (by simp), tgts_of (by simpa using l) fun y hy => h y (by simp [hy])⟩
  | [], _ :: _, l, _ => by cases l
  | _ :: _, [], l, _ => by cases l
theorem tests_sound {conds : List ME} {ifs : List Expr} (sT : ∀ c ∈ conds, SndT cx CS c) (ok : chkEs cx.K T.sym nm sc conds ifs = true) (H : Here cx A fs r env nm sc loc own σ h) {Q : Bool → Hp → Prop} (q : condwp T CS r conds loc σ Q) :
    wpAny (model cx.prog cx.w) A (forIn ifs true fun c r => if r = true then do let ok ← isTrue c env (eval c env); pure (ForInStep.yield ok) else pure (ForInStep.yield r))
      (Pst cx fs noX own h (BQ Q)) (Pst cx fs noX own h (EQ fun _ _ => False)) (cx.mk' h t) := by
  cases conds with
  | nil =>
    cases ifs with
    | nil => exact wpAny_tests_nil (Pst.here H.inv q)
    | cons _ _ => exact (Bool.false_ne_true ok).elim
  | cons c cs =>
    obtain ⟨rfl, q⟩ := q
    cases ifs with
    | nil => exact (Bool.false_ne_true ok).elim
    | cons e es =>
      replace ok := Bool.and_eq_true_iff.mp (show (chkE cx.K T.sym nm sc c e && chkEs cx.K T.sym nm sc [] es) = true from ok)
      have := chkEs_length ok.2
      cases es with
      | cons _ _ => cases this
      | nil => exact wpAny_tests_one (sT c (by simp) nm sc e ok.1 A fs r env loc own σ h t Q _ H q)
structure CLoop (cx : Cx T) (fs : List Env) (own0 : Addr → Option Addr) (h0 : Heap) (kk : ItK) (It D C : Addr) (xs rest acc : List MV) (cenv : Env) (sc' : Sc) (loc : Loc) (own : Addr → Option Addr) (σ : Hp) (h : Heap) : Prop where
  inv : Inv cx fs own σ h
  ext : OwnExt own0 own h0
  keep : Keep fs own0 noX h0 h
  ownI : own It = none
  ownD : own D = none
  at_ : ItAt (T := T) kk It xs rest h
  acc_ : ∃ ys n, h.get? D = some (listOf ys.toArray n) ∧ VRels T.sym h acc ys
  rel : ERel cx cenv sc' loc own h
theorem oddList {D : Addr} {ys : List Value} {n : Nat} (e : h.get? D = some (listOf ys.toArray n)) : Odd h D ∧ ∀ us m, h.get? D ≠ some (tupObj us m) :=
  ⟨fun o e' => by rw [e] at e'; cases e'; exact ⟨fun _ _ z => (by cases z), fun _ z => (by cases z)⟩, fun us m e' => by rw [e] at e'; exact clsNe (by decide) (congrArg Obj.cls (Option.some.inj e'))⟩
section
variable {kk : ItK} {It D C : Addr} {xs rest acc : List MV} {cenv : Env} {sc' : Sc} {own0 : Addr → Option Addr}
theorem CLoop.go (L : CLoop cx fs own0 h0 kk It D C xs rest acc cenv sc' loc own σ h) (fI : ¬ frameAddr fs It) (fD : ¬ frameAddr fs D) (I : Inv cx fs own1 σ1 h1) (x : OwnExt own own1 h) (k : Keep fs own noX h h1) :
    CLoop cx fs own0 h0 kk It D C xs rest acc cenv sc' loc own1 σ1 h1 := by
  obtain ⟨ys, n, e, rv⟩ := L.acc_
  obtain ⟨_, _, oI, eI⟩ := L.at_.odd
  have tk := L.inv.tk0 k
  exact ⟨I, L.ext.trans L.keep x, L.keep.trans L.ext k, x.old eI L.ownI, x.old e L.ownD, L.at_.keep tk (fun o e => k.odd e L.ownI fI), ⟨ys, n, k.odd e L.ownD fD, rv.tk tk⟩, L.rel.keep x k tk⟩
theorem CLoop.weaken (L : CLoop cx fs own0 h0 kk It D C xs rest acc cenv sc' loc own σ h) (hw : ∀ (i : Nat) (mv : MV), loc2[i]? = some (some mv) → loc[i]? = some (some mv)) : CLoop cx fs own0 h0 kk It D C xs rest acc cenv sc' loc2 own σ h :=
  ⟨L.inv, L.ext, L.keep, L.ownI, L.ownD, L.at_, L.acc_, L.rel.weaken hw⟩
end
inductive CEnd (cx : Cx T) (fs : List Env) (own : Addr → Option Addr) (h : Heap) (Q : MV → Hp → Prop) (D C : Addr) (s : Shared) : Prop where
  | mk (own' : Addr → Option Addr) (σ' : Hp) (h' : Heap) (t' : Nat) (m : Str → Option Value) (e : s = cx.mk' h' t') (I : Inv cx fs own' σ' h') (x : OwnExt own own' h) (k : Keep fs own noX h h') (ns : h'.Ns C m) (oC : own' C = none) (bC : cx.base.get? C = none) (nC : h.get? C = none) (q : Q (.ref D) σ')
theorem comp_loop (hh : A.handled = none) {elt : ME} {conds : List ME} {ti : List Nat} {one : Bool} {tn : List Str} {target iter ex : Expr} {ifs : List Expr} {scope : Scope} {pos : Pos} {kk : ItK} {It D C : Addr} {xs : List MV} {cenv : Env} {nm' : Nm} {sc' : Sc}
    (sE : SndE cx CS elt) (sT : ∀ c ∈ conds, SndT cx CS c) (ac : ACtx A fs r) (S : EStat cenv nm') (ht : targetNames target = some (tn, one)) (tok : TgtsOk nm' sc' tn ti) (tloc : ∀ x ∈ tn, nm'.lookup x = some .local)
    (cE : chkE cx.K T.sym nm' sc' elt ex = true) (cT : chkEs cx.K T.sym nm' sc' conds ifs = true)
    (hC : cenv.locals = C) (nI : h.get? It = none) (nD : h.get? D = none) (nC : h.get? C = none) (ID : It ≠ D) (bI : cx.base.get? It = none) (bD : cx.base.get? D = none) (bC : cx.base.get? C = none)
    (fI : ¬ frameAddr fs It) (fD : ¬ frameAddr fs D)
    {Q : MV → Hp → Prop} {st : Hp → Prop} (hst : ∀ σ, st σ → ItSt kk xs σ) {J : List MV → List MV → Hp → Prop} (hJ : ∀ rest acc σ', J rest acc σ' → st σ' ∧ acc.length ≤ lineL)
    (turn : ∀ x rest acc σ', J (x :: rest) acc σ' → bindP ti one x loc fun loc' => condwp T CS r conds loc' σ' (fun t σ3 => if t then ewp T CS r elt loc' σ3 (fun y σ4 => J rest (acc ++ [y]) σ4) (fun _ _ => False) else J rest acc σ3))
    (fin : ∀ acc σ', J [] acc σ' → newP (.list acc) σ' Q) {R : Result → Shared → Prop}
    (hR : ∀ s, CEnd cx fs own h Q D C s → R (.ok .next) s) :
    ∀ own' σ' h' t', CLoop cx fs own h kk It D C xs xs [] cenv sc' (clear loc ti) own' σ' h' → J xs [] σ' →
      codeAny (model cx.prog cx.w) A (.compLoop (.ListComp ex [⟨target, iter, ifs, 0⟩] scope pos) 0 (.ref It) (.ref D) cenv) R (cx.mk' h' t') := by
  intro own' σ' h' t' L0 j0
  obtain ⟨P, hP⟩ : ∃ P : Nat → Shared → Prop, ∀ n s, P n s ↔ ∃ rest acc own' σ' h' t', n = rest.length ∧ s = cx.mk' h' t' ∧ CLoop cx fs own h kk It D C xs rest acc cenv sc' (clear loc ti) own' σ' h' ∧ J rest acc σ' := ⟨_, fun _ _ => Iff.rfl⟩
  refine compLoop_any P (fun n s z => ?_) xs.length ((hP _ _).mpr ⟨xs, [], own', σ', h', t', rfl, rfl, L0, j0⟩)
  clear L0 j0 own' σ' h' t'
  have hP2 : ∀ {rest acc own' σ' h' t'}, CLoop cx fs own h kk It D C xs rest acc cenv sc' (clear loc ti) own' σ' h' → J rest acc σ' → P rest.length (cx.mk' h' t') := fun L j => (hP _ _).mpr ⟨_, _, _, _, _, _, rfl, rfl, L, j⟩
  obtain ⟨rest, acc, own1, σ1, h1, t1, rfl, rfl, L, j⟩ := (hP _ _).mp z
  clear hP z
  obtain ⟨hst1, hlen⟩ := hJ _ _ _ j
  obtain ⟨LI, Lx, Lk, LoI, LoD, Lat, Lacc, LR⟩ := L
  obtain ⟨oI, nt, _⟩ := Lat.odd
  have buts : ∀ {h2 : Heap}, (∀ b o, b ≠ It → h1.get? b = some o → h2.get? b = some o) → Inv cx fs own1 σ1 h2 ∧ TK h1 h2 ∧ Keep fs own noX h h2 ∧ ERel cx cenv sc' (clear loc ti) own1 h2 := fun {h2} hk => by
    obtain ⟨I2, tk⟩ := LI.buts (X := fun b => b = It) (fun a x => by subst x; exact ⟨LoI, bI, fun z => absurd z fI, nt⟩) hk
    exact ⟨I2, tk, Lk.buts (Y := fun b => b = It) hk fun a x => .inr (x ▸ nI), LR.odd oI hk tk⟩
  obtain ⟨ys, nD', eD, rD⟩ := Lacc
  have lD := rD.length
  refine next_sound hh LI Lat (hst _ hst1) (fun e h2 t2 hk => ?_) fun x rest' v h2 t2 e rv at2 hk => ?_
  · subst e
    obtain ⟨I2, tk, k2, R2⟩ := buts hk
    have eD2 := hk D _ (Ne.symm ID) eD
    obtain ⟨m, ns, _⟩ := R2.ns
    have q := fin _ _ j D (I2.sNone LoD bD)
    have I3 := I2.adopt (mo := .list acc) LoD bD fD eD2 listNe ⟨ys, nD', eD2, rD.tk tk⟩
    have CD : C ≠ D := fun z => by
      obtain ⟨o, es, ep, e, d, _⟩ := ns
      have e' : h2.get? D = some o := by rw [← z, ← hC]; exact e
      rw [eD2] at e'; cases e'; cases d
    refine hR _ ⟨ownNew own1 D, _, h2, t2, m, rfl, I3, ⟨fun a y e => ?_, fun a y e => ?_⟩, k2, hC ▸ ns, ?_, bC, nC, q⟩
    · have := Lx.up a y e
      unfold ownNew
      by_cases z : a = D
      · subst z; rw [LoD] at this; cases this
      · rw [if_neg z]; exact this
    · unfold ownNew at e
      by_cases z : a = D
      · subst z
        refine .inr ⟨?_, nD⟩
        cases w : own a with
        | none => rfl
        | some y' => have := Lx.up a y' w; rw [LoD] at this; cases this
      · rw [if_neg z] at e; exact Lx.new a y e
    · unfold ownNew
      rw [if_neg CD, ← hC]; exact R2.ownL
  · subst e
    obtain ⟨I2, tk, k2, R2⟩ := buts hk
    have eD2 := hk D _ (Ne.symm ID) eD
    refine go_sound at2 ?_
    refine bind_sound hh S I2 R2 ht tok (rv.tk tk) (bindP_clear (turn _ _ _ _ j)) fun loc' h3 t3 z I3 R3 H3 tk3 => ?_
    obtain ⟨q, hw⟩ := z
    have wr : ∀ a, wrX cenv tn a → a = C := fun a z => by
      rcases z with z | ⟨x, hx, _, z⟩
      · exact z.trans hC
      · rw [S.kindOf, tloc x hx] at z; cases z
    obtain ⟨m3, ns3, _⟩ := R3.ns
    obtain ⟨m2, ns2, _⟩ := R2.ns
    have CD : C ≠ D := fun z => by
      obtain ⟨o, es, ep, e, d, _⟩ := ns2
      have e' : h2.get? D = some o := by rw [← z, ← hC]; exact e
      rw [eD2] at e'; cases e'; cases d
    obtain ⟨oI2, nt2, _⟩ := at2.odd
    have CI : C ≠ It := fun z => by
      obtain ⟨o, es, ep, e, d, _⟩ := ns2
      exact (oI2 o (by rw [← z, ← hC]; exact e)).1 _ _ d
    have L3 : CLoop cx fs own h kk It D C xs rest' acc cenv sc' loc' own1 σ1 h3 :=
      ⟨I3, Lx, k2.hid H3 fun a z => .inr (wr a z ▸ nC), LoI, LoD, at2.keep tk3 fun o e => H3.same _ _ (fun z => CI (wr _ z).symm) e, ⟨ys, nD', H3.same _ _ (fun z => CD (wr _ z).symm) eD2, (rD.tk tk).tk tk3⟩, R3⟩
    refine wpAny_seq (tests_sound sT cT ⟨ac, S, I3, R3⟩ q) (fun e s z => ?_) fun b own4 σ4 h4 t4 I4 x4 k4 p => ?_
    · obtain ⟨_, _, _, _, _, _, _, _, _, _, _, _, _, z⟩ := z; exact z.elim
    have L4 := L3.go fI fD I4 x4 k4
    have p : (if b then ewp T CS r elt loc' σ4 (fun y σ4 => J rest' (acc ++ [y]) σ4) (fun _ _ => False) else J rest' acc σ4) := p
    cases b with
    | false => exact ⟨rest'.length, Nat.lt_succ_self _, hP2 (L4.weaken hw) p⟩
    | true =>
      simp only [if_true] at p ⊢
      refine wpAny_seq (sE nm' sc' ex cE A fs r cenv loc' own4 σ4 h4 t4 _ _ ⟨ac, S, I4, L4.rel⟩ p) (fun e s z => ?_) fun v5 own5 σ5 h5 t5 I5 x5 k5 p5 => ?_
      · obtain ⟨_, _, _, _, _, _, _, _, _, _, _, _, _, z⟩ := z; exact z.elim
      obtain ⟨y, ry, p5⟩ := p5
      have L5 := L4.go fI fD I5 x5 k5
      obtain ⟨ys5, n5, e5, r5⟩ := L5.acc_
      have l5 := r5.length
      refine append_at e5 (by rw [l5]; exact hlen) fun h6 n6 e6 hk6 => ?_
      obtain ⟨oD, ntD⟩ := oddList e5
      obtain ⟨I6, tk6⟩ := I5.buts (X := fun b => b = D) (fun a x => by subst x; exact ⟨L5.ownD, bD, fun z => absurd z fD, ntD⟩) hk6
      refine ⟨rest'.length, Nat.lt_succ_self _, hP2 ⟨I6, L5.ext, L5.keep.buts (Y := fun b => b = D) hk6 fun a x => .inr (x ▸ nD), L5.ownI, L5.ownD, L5.at_.keep tk6 fun o e => hk6 It o ID e, ⟨ys5 ++ [v5], n6, e6, ?_⟩, (L5.rel.odd oD hk6 tk6).weaken hw⟩ p5⟩
      exact (r5.tk tk6).append (.cons (ry.tk tk6) .nil)
end
end Mine
end
section
open PySem PySem.W PyProof.Rows PySem.Builtin.ObjectAttr
set_option maxRecDepth 20000
namespace Mine
section
variable {T : Tab} {cx : Cx T} {CS : CSpec} {A : Around} {fs : List Env} {r : Nat} {env : Env} {nm : Nm} {sc : Sc} {loc loc2 : Loc} {own own1 : Addr → Option Addr} {σ σ1 : Hp} {h h0 h1 h2 h' : Heap} {t : Nat} {X Y : Addr → Prop}
theorem comp_core {elt e1 e2 : ME} {conds : List ME} {ti : List Nat} {one : Bool} {k : SrcK} {tn : List Str} {target iter ex : Expr} {ifs : List Expr} {scope : Scope} {pos p : Pos}
    (sE : SndE cx CS elt) (s1 : SndE cx CS e1) (sT : ∀ c ∈ conds, SndT cx CS c) (H : Here cx A fs r env nm sc loc own σ h)
    (ht : targetNames target = some (tn, one)) (hk : scope.kind = .function) (cc : compOk scope.names nm tn ti sc = true) (hset : isSet iter = false)
    (cE : chkE cx.K T.sym (compNm scope.names nm) (compSc scope.names tn ti sc) elt ex = true) (cT : chkEs cx.K T.sym (compNm scope.names nm) (compSc scope.names tn ti sc) conds ifs = true)
    (ok : SrcOk cx.K T.sym nm sc k e1 e2 iter) {Q E : MV → Hp → Prop} (q : ewp T CS r (.comp elt ti one k e1 e2 conds) loc σ Q E)
    {use : Option (Value → Sem Unit)} {Q' : Value → Shared → Prop}
    (hR : ∀ D C s, h.get? C = none → CEnd cx fs own h Q D C s → compPost (model cx.prog cx.w) A (Pst cx fs noX own h (EQ E)) use Q' (.ref D) C (.ok .next) s) :
    wpAny (model cx.prog cx.w) A (comprehension (.ListComp ex [⟨target, iter, ifs, 0⟩] scope pos) scope env p (newList []) false (eval iter env) use) Q' (Pst cx fs noX own h (EQ E)) (cx.mk' h t) := by
  obtain ⟨hr, q⟩ := q
  have cc := compChk_of (cx := cx) cc
  have cells : ∀ x ∈ scope.names, x.2 = .free → ∃ c, env.cells.lookup x.1 = some c := fun x hx e => by
    obtain ⟨z, i, hi⟩ := cc.free x hx e
    rw [← H.stat.kindOf] at z
    obtain ⟨c, _, _, c1, _⟩ := H.rel.cells x.1 i hi z
    exact ⟨c, c1⟩
  obtain ⟨cl, hcl, cl1, cl2⟩ := clos_of env scope cells
  have hh := H.around.hd hr
  refine wpAny_comprehension_free rfl (folded_not_set hset env) hcl hk cc.loc ?_
  refine src_sound (F := fun σ2 xs st => _) s1 ok H q fun It kk xs st own2 σ2 h2 t2 Rd hst F => ?_
  obtain ⟨J, j0, hJ, turn, fin⟩ := F
  refine wpAny_newObj_type (wpAny_newFunctionEnv cc.nocell (by intro y hy; simp at hy) (fun h3 ns3 sb3 => ?_) hk)
  dsimp only at ns3 sb3 ⊢
  have sz : ((cx.mk' h2 t2).heap.push { cls := .type "list", dict := none, data := .seq ([] : List Value).toArray }).objs.size = h2.objs.size + 1 := Heap.size_push ..
  generalize hHA : (cx.mk' h2 t2).heap.push { cls := .type "list", dict := none, data := .seq ([] : List Value).toArray } = hA at ns3 sb3 sz ⊢
  have eDA : hA.get? h2.objs.size = some (listOf ([] : List Value).toArray 0) := by rw [← hHA]; exact Heap.get?_push_size h2 rfl
  have upA : ∀ b o, h2.get? b = some o → hA.get? b = some o := fun b o e => by rw [← hHA]; exact Heap.get?_push_of_some _ e
  have up3 : ∀ b o, hA.get? b = some o → h3.get? b = some o := fun b o e => sb3.extBut b o (fun z => by
    rw [z] at e; rw [get?_size] at e; cases e) (Heap.get?_push_of_some _ e)
  have up : ∀ b o, h2.get? b = some o → h3.get? b = some o := fun b o e => up3 b o (upA b o e)
  obtain ⟨I3, tk3⟩ := Rd.inv.grow up
  have nD2 : h2.get? h2.objs.size = none := get?_size h2
  have nC2 : h2.get? hA.objs.size = none := Heap.get?_none_of_le (by rw [sz]; lia)
  have old : ∀ {a : Addr}, h2.get? a = none → h.get? a = none := fun {a} e => by
    cases w : h.get? a with
    | none => rfl
    | some o => obtain ⟨o', e'⟩ := Rd.keep.live a o w; rw [e] at e'; cases e'
  have baseNone : ∀ {a : Addr}, h2.get? a = none → cx.base.get? a = none := fun {a} e => by
    cases w : cx.base.get? a with
    | none => rfl
    | some o => have := Rd.inv.base a o w; rw [e] at this; cases this
  obtain ⟨oIt, eIt⟩ := Rd.at_.odd.2.2
  have ID : It ≠ h2.objs.size := fun z => by rw [z, nD2] at eIt; cases eIt
  have kH : Keep fs own noX h h3 := Rd.keep.buts (Y := noX) (fun b o _ e => up b o e) fun _ x => x.elim
  have Rl : ERel cx env sc loc own2 h2 := H.rel.keep Rd.ext Rd.keep (H.inv.tk0 Rd.keep)
  have Rl3 := Rl.grow up
  have hcells : ∀ {x : Str} {c : Addr}, cl.lookup x = some c → env.cells.lookup x = some c := fun e => cl1 _ (lookup_mem e)
  have R3 : ERel cx (compEnvC scope cl hA.objs.size env) (compSc scope.names tn ti sc) (clear loc ti) own2 h3 := by
    refine ⟨⟨_, ns3, fun x i mv g1 g2 g3 => ?_⟩, (Rd.inv.fresh nC2).2, baseNone nC2, fun x i g1 g2 => ?_, fun x y c g1 g2 => Rl.inj x y c (hcells g1) (hcells g2), fun x y i g1 g2 => snd_inj cc.nd g1 g2⟩
    · obtain ⟨_, g4⟩ := clear_in _ _ _ _ g2
      rcases cc.all (x, i) (lookup_mem g1) with ⟨z, _⟩ | ⟨_, z, _⟩
      · exact absurd z g4
      · rw [(stat_comp (scope := scope) H.stat hk).kindOf, compNm_lookup, z] at g3
        simp only [Option.map_some, Option.some.injEq] at g3
        split at g3 <;> cases g3
    · rcases cc.all (x, i) (lookup_mem g1) with ⟨_, z⟩ | ⟨zf, _, z⟩
      · rw [(stat_comp (scope := scope) H.stat hk).kindOf, compNm_lookup, z] at g2
        simp only [Option.map_some, Option.some.injEq] at g2
        have e0 : (NameKind.local == NameKind.free) = false := by decide
        simp only [e0, Bool.false_and, Bool.false_eq_true, if_false] at g2
        rcases g2 with g2 | g2 <;> cases g2
      · obtain ⟨kz, _⟩ := cc.free _ zf rfl
        rw [← H.stat.kindOf] at kz
        obtain ⟨c, o, vo, c1, c2, c3, c4, c5, c6, c8⟩ := Rl3.cells x i z kz
        obtain ⟨c', hc'⟩ := cl2 x zf
        obtain ⟨c'', hc''⟩ := mem_lookup hc'
        have := hcells hc''
        rw [c1] at this; cases this
        refine ⟨c, o, vo, hc'', c2, c3, c4, c5, fun z => ?_, fun mv hm => c8 mv (clear_in _ _ _ _ hm).1⟩
        obtain ⟨o', es, ep, e, d, _⟩ := ns3
        have e' : h3.get? c = some o' := by rw [z]; exact e
        rw [c2] at e'; cases e'; rw [c3] at d; cases d
  have LI : CLoop cx fs own h kk It h2.objs.size hA.objs.size xs xs [] (compEnvC scope cl hA.objs.size env) (compSc scope.names tn ti sc) (clear loc ti) own2 σ2 h3 :=
    ⟨I3, Rd.ext, kH, Rd.ownI, (Rd.inv.fresh nD2).2, Rd.at_.keep tk3 fun o e => up _ o e, ⟨[], 0, up3 _ _ eDA, .nil⟩, R3⟩
  have tgt : ∀ x ∈ tn, (compNm scope.names nm).lookup x = some .local := fun x hx => by
    obtain ⟨i, hi, hx'⟩ := List.getElem_of_mem hx
    have hz : (x, ti[i]'(by rw [← cc.len]; exact hi)) ∈ tn.zip ti := by
      rw [← hx', ← List.getElem_zip (h := by rw [List.length_zip, ← cc.len]; lia)]
      exact List.getElem_mem _
    have := (cc.tgt _ hz).2
    rw [compNm_lookup, this]; rfl
  have loop : ∀ own' σ' h' t', CLoop cx fs own h kk It h2.objs.size hA.objs.size xs xs [] (compEnvC scope cl hA.objs.size env) (compSc scope.names tn ti sc) (clear loc ti) own' σ' h' → J xs [] σ' →
      codeAny (model cx.prog cx.w) A (.compLoop (.ListComp ex [⟨target, iter, ifs, 0⟩] scope pos) 0 (.ref It) (.ref h2.objs.size) (compEnvC scope cl hA.objs.size env)) (compPost (model cx.prog cx.w) A (Pst cx fs noX own h (EQ E)) use Q' (.ref h2.objs.size) hA.objs.size) (cx.mk' h' t') :=
    comp_loop hh sE sT H.around (stat_comp H.stat hk) ht (tgts_of cc.len fun x hx => ⟨(cc.tgt x hx).1, .inl (by rw [compNm_lookup, (cc.tgt x hx).2]; rfl)⟩) tgt cE cT rfl Rd.new (old nD2) (old nC2) ID Rd.baseI (baseNone nD2) (baseNone nC2)
      Rd.fr (notFrame_new Rd.inv nD2) hst hJ turn fin fun s e => hR _ _ s (old nC2) e
  have go := loop own2 σ2 h3 (t2 + ([] : List (Str × Value)).length) LI j0
  exact codeAny_compStart_list go (self_sound LI.at_ go)
theorem cend_pst (I0 : Inv cx fs own σ h) {Q E : MV → Hp → Prop} {D C : Addr} {s : Shared} (hC : h.get? C = none) (e : CEnd cx fs own h Q D C s) : compPost (model cx.prog cx.w) A (Pst cx fs noX own h (EQ E)) none (Pst cx fs noX own h (VQ (T := T) Q)) (.ref D) C (.ok .next) s := by
  obtain ⟨own', σ', h', t', m, rfl, I, x, k, ns, oC, bC, _, q⟩ := e
  refine ⟨m, ns, fun h'' sb => ?_⟩
  obtain ⟨I', tk⟩ := I.buts (X := fun b => b = C) (h' := h'') (fun a x => by
    subst x
    refine ⟨oC, bC, fun z => absurd z (notFrame_new I0 hC), fun ys n e => ?_⟩
    obtain ⟨o', es, ep, e', d, _⟩ := ns
    have e2 : h'.get? a = some o' := e'
    rw [e] at e2; cases e2; cases d) fun b o hb e => sb.extBut b o hb e
  exact ⟨h'', t', own', σ', rfl, I', x, k.buts (Y := fun b => b = C) (fun b o hb e => sb.extBut b o hb e) fun a x => .inr (x ▸ hC), .ref D, .mk_ref D, q⟩
theorem srcOk_of {nm : Nm} {sc : Sc} {k : SrcK} {e1 e2 : ME} {iter : Expr} (c : (match k with
          | .exp => isN e2 && chkE cx.K T.sym nm sc e1 iter
          | .range => isN e2 && chkR cx.K T.sym nm sc e1 iter) = true) :
    SrcOk cx.K T.sym nm sc k e1 e2 iter := by
  cases k with
  | exp =>
    rw [Bool.and_eq_true] at c
    exact ⟨isN_none c.1, c.2⟩
  | range =>
    rw [Bool.and_eq_true] at c
    refine ⟨isN_none c.1, ?_⟩
    obtain ⟨x, p, y, pos, rfl, d⟩ := iR c.2
    simp only [Bool.and_eq_true, Bool.not_eq_true', beq_iff_eq] at d
    exact ⟨x, p, y, pos, rfl, d.1.1.1, by simpa using d.1.1.2, d.1.2, d.2⟩
end
end Mine
end
section
open PySem PySem.W PyProof.Rows PySem.Builtin.ObjectAttr
set_option maxRecDepth 20000
namespace Mine
section
variable {T : Tab} {cx : Cx T} {CS : CSpec} {A : Around} {fs : List Env} {r : Nat} {env : Env} {nm : Nm} {sc : Sc} {loc loc2 : Loc} {own own1 : Addr → Option Addr} {σ σ1 : Hp} {h h0 h1 h2 h' : Heap} {t : Nat} {X Y : Addr → Prop}
theorem evalArgs_sp {M : Model} {f : Value} {es : List Expr} {G : Args → Shared → Prop} {E : Value → Shared → Prop} {s : Shared} (w : wpAny M A (spliced (es.map fun e => (false, eval e env))) (fun vs s => G ⟨vs, []⟩ s) E s) (w0 : es = [] → G ⟨[], []⟩ s) :
    wpAny M A (evalArgs f true (es.map fun e => (false, eval e env)) []) G E s := by
  cases es with
  | nil => exact PyProof.Rows.evalArgs_nil3 (w0 rfl)
  | cons e es => exact Calls.evalArgs_plain w
theorem ewps_nil {loc : Loc} {Q : List MV → Hp → Prop} {E : MV → Hp → Prop} (q : ewps T CS r [] loc σ Q E) : Q [] σ := q
theorem callWith_sound (hCS : CSok cx CS) {ms : List ME} {f : Value} {es : List Expr} {pos : Pos} {us : List MV} {vs0 : List Value} {Q E : MV → Hp → Prop} (ck : callOk cx.K f = true) (sa : SndEs cx CS ms) (c : chkEs cx.K T.sym nm sc ms es = true)
    (H : Here cx A fs r env nm sc loc own σ h) (r0 : VRels T.sym h us vs0) (q : ewps T CS r ms loc σ (fun vs σ2 => CS r f (us ++ vs) σ2 Q E) E) :
    wpAny (model cx.prog cx.w) A (callWith pos f vs0 (backTo pos (starEach es env)) []) (Pst cx fs noX own h (VQ (T := T) Q)) (Pst cx fs noX own h (EQ E)) (cx.mk' h t) := by
  rw [starEach_chk c]
  have W : wpAny (model cx.prog cx.w) A (spliced (es.map fun e => (false, eval e env))) (fun vs s => cx.K.In s.heap ∧ wpAny (model cx.prog cx.w) A (call f (vs0 ++ vs)) (Pst cx fs noX own h (VQ (T := T) Q)) (Pst cx fs noX own h (EQ E)) s) (Pst cx fs noX own h (EQ E)) (cx.mk' h t) :=
    wpAny_seq (sa nm sc es c A fs r env loc own σ h t _ E H q) (fun _ _ e => e) fun vs own1 σ1 h1 t1 I x k p => by
      obtain ⟨ms', rv, _, p⟩ := p
      exact ⟨I.K, wpAny_mono (hCS _ _ _ _ _ _ p A fs own1 h1 t1 _ H.around I ((r0.tk (H.inv.tk0 k)).append rv)) (fun _ _ q => q.up x k) fun _ _ q => q.up x k⟩
  have W0 : es = [] → cx.K.In h ∧ wpAny (model cx.prog cx.w) A (call f (vs0 ++ [])) (Pst cx fs noX own h (VQ (T := T) Q)) (Pst cx fs noX own h (EQ E)) (cx.mk' h t) := fun e => by
    subst e
    have := chkEs_length c
    cases ms with
    | cons _ _ => cases this
    | nil => exact ⟨H.inv.K, hCS _ _ _ _ _ _ (ewps_nil q) A fs own h t _ H.around H.inv (by simpa using r0)⟩
  unfold callOk at ck
  rw [Bool.or_eq_true] at ck
  rcases ck with ck | ck
  · refine callWith_of (P := fun h => cx.K.In h) ?_ (keeps_K ck) (evalArgs_sp W W0)
    rw [plainMap]; rfl
  · cases f with
    | builtin _ => exact Calls.callWith_builtin (plainMap es env) (evalArgs_sp (wpAny_mono W (fun _ _ z => z.2) fun _ _ z => z) fun e => (W0 e).2)
    | type _ => exact PySem.callWith_type (plainMap es env) (evalArgs_sp (wpAny_mono W (fun _ _ z => z.2) fun _ _ z => z) fun e => (W0 e).2)
    | _ => exact (Bool.false_ne_true ck).elim
theorem sound_call (hCS : CSok cx CS) {f : ME} {ms : List ME} (sa : SndEs cx CS ms) : SndE cx CS (.call f ms) := fun nm sc ex c A fs r env loc own σ h t Q E H q => by
  replace c := iE_call c
  obtain ⟨fv, x, p, es, pos, rfl, rfl, c⟩ := c
  simp only [Bool.and_eq_true] at c
  obtain ⟨⟨c1, c3⟩, c4⟩ := c
  rw [e_call] at q
  refine wpAny_Call_NameR ?_
  refine step (P := VQ (T := T) fun m σ' => m = .con fv ∧ ewps T CS r ms loc σ' (fun vs σ2 => CS r fv vs σ2 Q E) E) (sound_con (cx := cx) (CS := CS) fv nm sc _ c3 A fs r env loc own σ h t _ E H (e_con (CS := CS) ▸ ⟨rfl, q⟩)) fun v own1 σ1 h1 t1 I x k q => ?_
  obtain ⟨m, rv, rfl, q⟩ := q
  obtain ⟨rfl, _⟩ := rv.con_inv
  exact callWith_sound hCS c1 sa c4 (H.go I x k) .nil q
theorem sound_meth (hCS : CSok cx CS) {o : ME} {n : Nat} {ms : List ME} (so : SndE cx CS o) (sa : SndEs cx CS ms) : SndE cx CS (.meth o n ms) := fun nm sc ex c A fs r env loc own σ h t Q E H q => by
  replace c := iE_meth c; obtain ⟨g, a, apos, es, pos, rfl, c⟩ := c; rw [e_meth] at q
  simp only [Bool.and_eq_true, beq_iff_eq, Bool.not_eq_true', decide_eq_true_eq] at c
  obtain ⟨⟨⟨⟨⟨c1, c2⟩, c3⟩, c4⟩, c5⟩, c6⟩ := c
  rw [arm_eval_Call, attrBase c2]
  refine wpAny_bind (step (so nm sc g c5 A fs r env loc own σ h t _ E H q) fun v own1 σ1 h1 t1 I x k q => ?_)
  obtain ⟨m, rv, q⟩ := q
  have H1 := H.go I x k
  refine wpAny_bind (wpAny_standAt ?_)
  have hform : methodCallForm (es.length + ([] : List Keyword).length) (backTo pos (starEach es env)) (backToKw pos (keywordEach [] env)) = true := by
    rw [starEach_chk c6]
    unfold methodCallForm
    have e1 : (es.map fun e => ((false, eval e env) : Bool × Sem Value)).all (fun x => !x.1) = true := by simp
    have e2 : (backToKw pos (keywordEach [] env)) = [] := rfl
    rw [e1, e2]
    simp; lia
  have hpos : methodCallPos true g env apos pos = pure pos := by unfold methodCallPos; simp [c3]
  unfold methodCall
  rw [hform]
  refine wpAny_bind (wpAny_holding ?_)
  show wpAny (model cx.prog cx.w) A (getMethod v a _) _ _ _
  refine meth_sound I c1 rv q fun f us vs t' ck r0 q => ?_
  refine wpAny_bind (wpAny_of_eq hpos ?_)
  exact callWith_sound hCS ck sa c6 H1 r0 q
theorem sound_tup {ms : List ME} (sa : SndEs cx CS ms) : SndE cx CS (.tup ms) := fun nm sc ex c A fs r env loc own σ h t Q E H q => by
  replace c := iE_tup c; obtain ⟨es, x1, pos, rfl, c⟩ := c; rw [e_tup] at q
  simp only [Bool.and_eq_true, decide_eq_true_eq] at c
  refine wpAny_Tuple_spliced ?_
  rw [starEach_chk c.1]
  refine wpAny_seq (sa nm sc es c.1 A fs r env loc own σ h t _ E H q) (fun _ _ e => e) fun vs own1 σ1 h1 t1 I x k p => ?_
  obtain ⟨ms', rv, l, p⟩ := p
  have hl : vs.length ≤ 30 := by rw [rv.length, l]; exact c.2
  exact ⟨Nat.le_trans hl (by decide), (new_tup I rv p).up x k⟩
theorem sound_list {ms : List ME} (sa : SndEs cx CS ms) : SndE cx CS (.list ms) := fun nm sc ex c A fs r env loc own σ h t Q E H q => by
  replace c := iE_list c; obtain ⟨es, pos, rfl, c⟩ := c; rw [e_list] at q
  simp only [Bool.and_eq_true, decide_eq_true_eq] at c
  show wpAny _ _ (do standAt pos; newList (← spliced (backTo pos (starEach es env)))) _ _ _
  refine wpAny_bind (wpAny_standAt (wpAny_bind ?_))
  rw [starEach_chk c.1]
  refine wpAny_seq (sa nm sc es c.1 A fs r env loc own σ h t _ E H q) (fun _ _ e => e) fun vs own1 σ1 h1 t1 I x k p => ?_
  obtain ⟨ms', rv, l, p⟩ := p
  have hl : vs.length ≤ 30 := by rw [rv.length, l]; exact c.2
  exact wpAny_newList ((new_list I rv p).up x k) (Nat.le_trans hl (by decide))
theorem sound_dI : SndE cx CS .dI := fun nm sc ex c A fs r env loc own σ h t Q E H q => by
  replace c := iE_dI c; obtain ⟨_, rfl⟩ := c; rw [e_dI] at q
  refine wpAny_Dict_empty ?_
  have e := get?_size h
  have up : ∀ b o, h.get? b = some o → (h.push { cls := .type "dict", data := .dict #[] }).get? b = some o := fun b o => Heap.get?_push_of_some _
  have gt : (h.push { cls := .type "dict", data := .dict #[] }).get? h.objs.size = some { cls := .type "dict", data := .dict #[] } := Heap.get?_push_size h rfl
  obtain ⟨I', k, x⟩ := H.inv.alloc (mo := .dI []) (h' := h.push { cls := .type "dict", data := .dict #[] }) e (base_size H.inv) up gt dictNe (fun tk => ⟨by have := modules_low H.inv.top.nolimit; simp only [beq_eq_false_iff_ne]; exact Nat.ne_of_gt this, [], Heap.DictOf.new h, rfl⟩)
  exact ⟨_, t, _, _, rfl, I', x, k, .ref h.objs.size, .mk_ref _, q _ (H.inv.fresh e).1⟩
theorem sound_dS : SndE cx CS .dS := fun nm sc ex c A fs r env loc own σ h t Q E H q => by
  replace c := iE_dS c; obtain ⟨_, rfl⟩ := c
  · replace q : newP (.dS []) σ Q := q
    refine wpAny_Dict_empty ?_
    have e := get?_size h
    have up : ∀ b o, h.get? b = some o → (h.push { cls := .type "dict", data := .dict #[] }).get? b = some o := fun b o => Heap.get?_push_of_some _
    have gt : (h.push { cls := .type "dict", data := .dict #[] }).get? h.objs.size = some { cls := .type "dict", data := .dict #[] } := Heap.get?_push_size h rfl
    obtain ⟨I', k, x⟩ := H.inv.alloc (mo := .dS []) (h' := h.push { cls := .type "dict", data := .dict #[] }) e (base_size H.inv) up gt dictNe (fun tk => ⟨[], Heap.DictOf.new h, rfl⟩)
    exact ⟨_, t, _, _, rfl, I', x, k, .ref h.objs.size, .mk_ref _, q _ (H.inv.fresh e).1⟩
theorem sound_ite {c a b : ME} (sc' : SndT cx CS c) (sa : SndE cx CS a) (sb : SndE cx CS b) : SndE cx CS (.ite c a b) := fun nm sc ex c A fs r env loc own σ h t Q E H q => by
  replace c := iE_ite c; obtain ⟨x, y, z, pos, rfl, c⟩ := c; rw [e_ite] at q
  simp only [Bool.and_eq_true] at c
  refine wpAny_IfExp ?_
  refine wpAny_seq (sc' nm sc x c.1.1 A fs r env loc own σ h t _ E H q) (fun _ _ e => e) fun b own1 σ1 h1 t1 I x k p => ?_
  have H1 := H.go I x k
  cases b with
  | true => exact wpAny_mono (sa nm sc y c.1.2 A fs r env loc own1 σ1 h1 t1 Q E H1 p) (fun _ _ q => q.up x k) fun _ _ q => q.up x k
  | false => exact wpAny_mono (sb nm sc z c.2 A fs r env loc own1 σ1 h1 t1 Q E H1 p) (fun _ _ q => q.up x k) fun _ _ q => q.up x k
theorem sound_comp {elt e1 e2 : ME} {conds : List ME} {ti : List Nat} {one : Bool} {k : SrcK} (sE : SndE cx CS elt) (s1 : SndE cx CS e1) (sT : ∀ c ∈ conds, SndT cx CS c) : SndE cx CS (.comp elt ti one k e1 e2 conds) := fun nm sc ex c A fs r env loc own σ h t Q E H q => by
  replace c := iE_comp c
  obtain ⟨el, target, iter, ifs, scope, pos, tn, rfl, ht, c⟩ := c
  simp only [Bool.and_eq_true, beq_iff_eq, Bool.not_eq_true'] at c
  obtain ⟨⟨⟨⟨⟨c2, c3⟩, c4⟩, c5⟩, c6⟩, c7⟩ := c
  rw [eval_ListComp]
  exact comp_core sE s1 sT H ht c2 c3 c4 c5 c6 (srcOk_of c7) q fun D C s hC e => cend_pst H.inv hC e
theorem sounds_nil : SndEs cx CS [] := fun nm sc es c A fs r env loc own σ h t Q E H q => by
  have := chkEs_length c
  cases es with
  | cons _ _ => cases this
  | nil => exact Calls.spliced_nil (Pst.here H.inv ⟨[], .nil, rfl, q⟩)
theorem sounds_cons {m : ME} {ms : List ME} (s1 : SndE cx CS m) (s2 : SndEs cx CS ms) : SndEs cx CS (m :: ms) := fun nm sc es c A fs r env loc own σ h t Q E H q => by
  cases es with
  | nil => exact (Bool.false_ne_true c).elim
  | cons e es =>
    replace c := Bool.and_eq_true_iff.mp (show (chkE cx.K T.sym nm sc m e && chkEs cx.K T.sym nm sc ms es) = true from c); rw [es_cons] at q
    rw [List.map_cons]
    refine Calls.spliced_cons ?_
    refine wpAny_seq (s1 nm sc e c.1 A fs r env loc own σ h t _ E H q) (fun _ _ e => e) fun v own1 σ1 h1 t1 I x k p => ?_
    obtain ⟨mv, rv, p⟩ := p
    refine wpAny_seq (s2 nm sc es c.2 A fs r env loc own1 σ1 h1 t1 _ E (H.go I x k) p) (fun _ _ e => e.up x k) fun vs own2 σ2 h2 t2 I2 x2 k2 p2 => ?_
    obtain ⟨mvs, rvs, l, p2⟩ := p2
    exact ((Pst.here I2 ⟨mv :: mvs, .cons (rv.tk (I.tk0 k2)) rvs, by rw [List.length_cons, List.length_cons, l], p2⟩).up x2 k2).up x k
theorem soundb_nil : SndB cx CS [] := fun nm sc es c isAnd pos A fs r env loc own σ h t Q E H q => by
  exact (show False from q).elim
theorem soundb_cons {m : ME} {ms : List ME} (s1 : SndE cx CS m) (s2 : SndB cx CS ms) : SndB cx CS (m :: ms) := fun nm sc es c isAnd pos A fs r env loc own σ h t Q E H q => by
  cases es with
  | nil => exact (Bool.false_ne_true c).elim
  | cons e es =>
    replace c := Bool.and_eq_true_iff.mp (show (chkE cx.K T.sym nm sc m e && chkEs cx.K T.sym nm sc ms es) = true from c)
    have l := chkEs_length c.2
    show wpAny _ _ (boolOp pos _ (eval e env :: evalEach es env)) _ _ _
    cases ms with
    | nil =>
      cases es with
      | cons _ _ => cases l
      | nil => exact s1 nm sc e c.1 A fs r env loc own σ h t Q E H q
    | cons m' ms' =>
      cases es with
      | nil => cases l
      | cons e' es' =>
        show wpAny _ _ (do
          let v ← eval e env
          standAt pos
          let t ← holding [v] (truthy v)
          match (if isAnd then BoolOp.And else BoolOp.Or), t with
          | .And, false | .Or, true => pure v
          | _, _ => boolOp pos (if isAnd then BoolOp.And else BoolOp.Or) (evalEach (e' :: es') env)) _ _ _
        rw [b_more] at q
        refine wpAny_bind ?_
        refine wpAny_seq (s1 nm sc e c.1 A fs r env loc own σ h t _ E H q) (fun _ _ e => e) fun v own1 σ1 h1 t1 I x k p => ?_
        obtain ⟨mv, rv, p⟩ := p
        refine wpAny_bind (wpAny_standAt (wpAny_bind (wpAny_holding (truth_sound rv p fun b t' p => ?_))))
        have rest : boolwp T CS r isAnd (m' :: ms') loc σ1 Q E → wpAny (model cx.prog cx.w) A (boolOp pos (if isAnd then BoolOp.And else BoolOp.Or) (evalEach (e' :: es') env)) (Pst cx fs noX own h (VQ (T := T) Q)) (Pst cx fs noX own h (EQ E)) (cx.mk' h1 t') := fun p =>
          wpAny_mono (s2 nm sc (e' :: es') c.2 isAnd pos A fs r env loc own1 σ1 h1 t' Q E (H.go I x k) p) (fun _ _ q => q.up x k) fun _ _ q => q.up x k
        cases b <;> cases isAnd
        · exact rest p
        · exact wpAny_pure ((val_here I rv p).up x k)
        · exact wpAny_pure ((val_here I rv p).up x k)
        · exact rest p
theorem sounda_nil : SndA cx CS [] := fun nm sc es c isAnd A fs r env loc own σ h t Q E H q => by
  have := chkEs_length c
  cases es with
  | cons _ _ => cases this
  | nil =>
    cases isAnd <;> exact wpAny_pure (Pst.here H.inv q)
theorem sounda_cons {m : ME} {ms : List ME} (s1 : SndT cx CS m) (s2 : SndA cx CS ms) : SndA cx CS (m :: ms) := fun nm sc es c isAnd A fs r env loc own σ h t Q E H q => by
  cases es with
  | nil => exact (Bool.false_ne_true c).elim
  | cons e es =>
    replace c := Bool.and_eq_true_iff.mp (show (chkE cx.K T.sym nm sc m e && chkEs cx.K T.sym nm sc ms es) = true from c); rw [at_cons] at q
    show wpAny _ _ (do
      match (if isAnd then BoolOp.And else BoolOp.Or), ← isTrue e env (eval e env) with
      | .And, false => pure false
      | .Or, true => pure true
      | _, _ => allTrue (if isAnd then BoolOp.And else BoolOp.Or) es env) _ _ _
    refine wpAny_bind ?_
    refine wpAny_seq (s1 nm sc e c.1 A fs r env loc own σ h t _ E H q) (fun _ _ e => e) fun b own1 σ1 h1 t1 I x k p => ?_
    have p : (if b == isAnd then alltwp T CS r isAnd ms loc σ1 Q E else Q b σ1) := p
    have rest : alltwp T CS r isAnd ms loc σ1 Q E → wpAny (model cx.prog cx.w) A (allTrue (if isAnd then BoolOp.And else BoolOp.Or) es env) (Pst cx fs noX own h (BQ Q)) (Pst cx fs noX own h (EQ E)) (cx.mk' h1 t1) := fun p =>
      wpAny_mono (s2 nm sc es c.2 isAnd A fs r env loc own1 σ1 h1 t1 Q E (H.go I x k) p) (fun _ _ q => q.up x k) fun _ _ q => q.up x k
    cases b <;> cases isAnd
    · exact rest p
    · exact wpAny_pure ((Pst.here I p).up x k)
    · exact wpAny_pure ((Pst.here I p).up x k)
    · exact rest p
theorem tsound_of {m : ME} (s1 : SndE cx CS m) (hm : ∀ r loc σ Q E, twp T CS r m loc σ Q E → ewp T CS r m loc σ (fun v σ1 => truthP v fun b => Q b σ1) E)
    (hp : ∀ nm sc ex, chkE cx.K T.sym nm sc m ex = true → ∀ env whole, isTrue ex env whole = (do let v ← whole; standAt ex.pos; holding [v] (truthy v))) : SndT cx CS m := fun nm sc ex c A fs r env loc own σ h t Q E H q => by
  refine isTrue_plain ?_ (hp nm sc ex c env _)
  refine wpAny_seq (s1 nm sc ex c A fs r env loc own σ h t _ E H (hm _ _ _ _ _ q)) (fun _ _ e => e) fun v own1 σ1 h1 t1 I x k p => ?_
  obtain ⟨mv, rv, p⟩ := p
  exact truth_sound rv p fun b t' p => (Pst.here I p).up x k
theorem tsound_not {m : ME} (s1 : SndT cx CS m) : SndT cx CS (.not m) := fun nm sc ex c A fs r env loc own σ h t Q E H q => by
  replace c := iE_not c; obtain ⟨e, pos, rfl, c⟩ := c; rw [t_not] at q
  refine PyProof.Rows.isTrue_not (wpAny_mono (s1 nm sc e c A fs r env loc own σ h t _ E H q) (fun b s p => ?_) fun _ _ e => e)
  obtain ⟨h', t', own', σ', e, I, x', k', q⟩ := p
  exact ⟨h', t', own', σ', e, I, x', k', q⟩
theorem tsound_and {ms : List ME} (s1 : SndA cx CS ms) : SndT cx CS (.and ms) := fun nm sc ex c A fs r env loc own σ h t Q E H q => by
  replace c := iE_and c; obtain ⟨_, _, rfl, c⟩ := c; rw [t_and] at q
  exact wpAny_isTrue_BoolOp (s1 nm sc _ c true A fs r env loc own σ h t Q E H q)
theorem tsound_or {ms : List ME} (s1 : SndA cx CS ms) : SndT cx CS (.or ms) := fun nm sc ex c A fs r env loc own σ h t Q E H q => by
  replace c := iE_or c; obtain ⟨_, _, rfl, c⟩ := c; rw [t_or] at q
  exact wpAny_isTrue_BoolOp (s1 nm sc _ c false A fs r env loc own σ h t Q E H q)
theorem tsound_ite {c a b : ME} (sc' : SndT cx CS c) (sa : SndT cx CS a) (sb : SndT cx CS b) : SndT cx CS (.ite c a b) := fun nm sc ex c A fs r env loc own σ h t Q E H q => by
  replace c := iE_ite c; obtain ⟨x, y, z, pos, rfl, c⟩ := c; rw [t_ite] at q
  simp only [Bool.and_eq_true] at c
  refine PyProof.Rows.isTrue_IfExp ?_
  refine wpAny_seq (sc' nm sc x c.1.1 A fs r env loc own σ h t _ E H q) (fun _ _ e => e) fun b own1 σ1 h1 t1 I x k p => ?_
  have H1 := H.go I x k
  cases b with
  | true => exact wpAny_mono (sa nm sc y c.1.2 A fs r env loc own1 σ1 h1 t1 Q E H1 p) (fun _ _ q => q.up x k) fun _ _ q => q.up x k
  | false => exact wpAny_mono (sb nm sc z c.2 A fs r env loc own1 σ1 h1 t1 Q E H1 p) (fun _ _ q => q.up x k) fun _ _ q => q.up x k
end
end Mine
end
section
open PySem PySem.W PyProof.Rows PySem.Builtin.ObjectAttr
set_option maxRecDepth 20000
namespace Mine
section
variable {T : Tab} {cx : Cx T} {CS : CSpec}
theorem tsound_no {m : ME} (hm : ∀ r loc σ Q E, ¬ twp T CS r m loc σ Q E) : SndT cx CS m := fun _ _ _ _ _ _ r _ loc _ σ _ _ Q E _ q => absurd q (hm r loc σ Q E)
mutual
theorem sndE (hCS : CSok cx CS) : ∀ m : ME, SndE cx CS m
  | .none => sound_none
  | .bool b => sound_bool b
  | .int i => sound_int i
  | .sym n => sound_sym n
  | .loc i => sound_loc i
  | .con v => sound_con v
  | .gint i => sound_gint i
  | .attr e n => sound_attr n (sndE hCS e)
  | .item e i => sound_item (sndE hCS e) (sndE hCS i)
  | .slice e lo hi => sound_slice (sndE hCS e) (sndE hCS lo) (sndE hCS hi)
  | .bin _ a b => sound_bin (sndE hCS a) (sndE hCS b)
  | .not e => sound_not (sndE hCS e)
  | .neg e => sound_neg (sndE hCS e)
  | .and es => sound_and (sndB hCS es)
  | .or es => sound_or (sndB hCS es)
  | .cmp _ a b => sound_cmp (sndE hCS a) (sndE hCS b)
  | .ite c a b => sound_ite (sndT hCS c) (sndE hCS a) (sndE hCS b)
  | .tup es => sound_tup (sndEs hCS es)
  | .list es => sound_list (sndEs hCS es)
  | .dI => sound_dI
  | .dS => sound_dS
  | .call _ args => sound_call hCS (sndEs hCS args)
  | .meth o _ args => sound_meth hCS (sndE hCS o) (sndEs hCS args)
  | .comp elt _ _ _ e1 _ conds => sound_comp (sndE hCS elt) (sndE hCS e1) (sndTs hCS conds)
theorem sndEs (hCS : CSok cx CS) : ∀ ms : List ME, SndEs cx CS ms
  | [] => sounds_nil
  | m :: ms => sounds_cons (sndE hCS m) (sndEs hCS ms)
theorem sndB (hCS : CSok cx CS) : ∀ ms : List ME, SndB cx CS ms
  | [] => soundb_nil
  | m :: ms => soundb_cons (sndE hCS m) (sndB hCS ms)
theorem sndA (hCS : CSok cx CS) : ∀ ms : List ME, SndA cx CS ms
  | [] => sounda_nil
  | m :: ms => sounda_cons (sndT hCS m) (sndA hCS ms)
theorem sndTs (hCS : CSok cx CS) : ∀ ms : List ME, ∀ m ∈ ms, SndT cx CS m
  | [], _, h => by cases h
  | m :: ms, m', h => by
    rcases List.mem_cons.mp h with h | h
    · rw [h]; exact sndT hCS m
    · exact sndTs hCS ms m' h
theorem sndT (hCS : CSok cx CS) : ∀ m : ME, SndT cx CS m
  | .not e => tsound_not (sndT hCS e)
  | .and es => tsound_and (sndA hCS es)
  | .or es => tsound_or (sndA hCS es)
  | .ite c a b => tsound_ite (sndT hCS c) (sndT hCS a) (sndT hCS b)
  | .cmp _ a b => tsound_cmp (sndE hCS a) (sndE hCS b)
  | .bool b => tsound_of (sound_bool b) (fun r loc σ Q E q => q) fun nm sc ex c env whole => by
      obtain ⟨_, _, rfl⟩ := iE_bool c; rfl
  | .loc i => tsound_of (sound_loc i) (fun r loc σ Q E q => q) fun nm sc ex c env whole => by
      obtain ⟨_, _, rfl, _⟩ := iE_loc c; rfl
  | .attr e n => tsound_of (sound_attr n (sndE hCS e)) (fun r loc σ Q E q => q) fun nm sc ex c env whole => by
      obtain ⟨_, _, _, rfl, _⟩ := iE_attr c; rfl
  | .item e i => tsound_of (sound_item (sndE hCS e) (sndE hCS i)) (fun r loc σ Q E q => q) fun nm sc ex c env whole => by
      obtain ⟨_, _, _, rfl, _⟩ := iE_item c; rfl
  | .bin _ a b => tsound_of (sound_bin (sndE hCS a) (sndE hCS b)) (fun r loc σ Q E q => q) fun nm sc ex c env whole => by
      obtain ⟨_, _, _, _, rfl, _⟩ := iE_bin c; rfl
  | .call _ args => tsound_of (sound_call hCS (sndEs hCS args)) (fun r loc σ Q E q => q) fun nm sc ex c env whole => by
      obtain ⟨_, _, _, _, _, _, rfl, _⟩ := iE_call c; rfl
  | .meth o _ args => tsound_of (sound_meth hCS (sndE hCS o) (sndEs hCS args)) (fun r loc σ Q E q => q) fun nm sc ex c env whole => by
      obtain ⟨_, _, _, _, _, rfl, _⟩ := iE_meth c; rfl
  | .none => tsound_no fun r loc σ Q E q => q
  | .int _ => tsound_no fun r loc σ Q E q => q
  | .sym _ => tsound_no fun r loc σ Q E q => q
  | .con _ => tsound_no fun r loc σ Q E q => q
  | .gint _ => tsound_no fun r loc σ Q E q => q
  | .slice .. => tsound_no fun r loc σ Q E q => q
  | .neg _ => tsound_no fun r loc σ Q E q => q
  | .tup _ => tsound_no fun r loc σ Q E q => q
  | .list _ => tsound_no fun r loc σ Q E q => q
  | .dI => tsound_no fun r loc σ Q E q => q
  | .dS => tsound_no fun r loc σ Q E q => q
  | .comp .. => tsound_no fun r loc σ Q E q => q
end
end
end Mine
end
section
open PySem PySem.W PyProof.Rows PySem.Builtin.ObjectAttr
set_option maxRecDepth 20000
namespace Mine
section
variable {T : Tab} {cx : Cx T} {A : Around} {fs : List Env} {r : Nat} {env : Env} {nm : Nm} {sc : Sc} {loc loc2 : Loc} {own own1 own' : Addr → Option Addr} {σ σ1 : Hp} {h h0 h1 h2 h' : Heap} {t : Nat} {X Y : Addr → Prop} {E : Value → Shared → Prop} {M : Model}
noncomputable def TrOn (own : Addr → Option Addr) (h : Heap) (a : Addr) : Prop := ∃ tb o, own tb = some a ∧ h.get? tb = some o ∧ o.cls = .type "traceback"
theorem TrOn.keep {a : Addr} (x : TrOn own h a) (e : OwnExt own own' h) (k : Keep fs own X h h') (nx : ∀ b, own b = some a → ¬ X b) : TrOn own' h' a := by
  obtain ⟨tb, o, e1, e2, e3⟩ := x
  obtain ⟨o', g, c⟩ := k.kls tb o a e1 (nx tb e1) e2
  exact ⟨tb, o', e.up _ _ e1, g, c.trans e3⟩
theorem put_self {a : Addr} {o : MObj} (e : σ a = some o) : σ.put a o = σ := by
  funext b
  unfold Hp.put
  by_cases z : b = a
  · subst z; rw [if_pos rfl, e]
  · rw [if_neg z]
theorem tb_upd (I : Inv cx fs own σ h) {a C tb : Addr} {l : List (Nat × MV)} {ot : Obj} {ts : Array Value} {x : Value} (hs : σ a = some (.exc C l)) (ho : own tb = some a) (ne : tb ≠ a) (g : h.get? tb = some ot) (d : ot.data = .fields ts) (sz : 3 < ts.size)
    (hc : ot.cls = .type "traceback") : Inv cx fs own σ (h.update tb (Obj.mapFields (·.setIfInBounds 3 x))) ∧ Keep fs own noX h (h.update tb (Obj.mapFields (·.setIfInBounds 3 x))) ∧ TrOn own (h.update tb (Obj.mapFields (·.setIfInBounds 3 x))) a := by
  have d' := Obj.data_mapFields d (·.setIfInBounds 3 x)
  have g' := Heap.get?_update_self (Obj.mapFields (·.setIfInBounds 3 x)) g (Obj.isFreed_of_fields d')
  have c' : (Obj.mapFields (·.setIfInBounds 3 x) ot).cls = ot.cls := Obj.cls_mapFields _ _
  have oth : ∀ b, b ≠ tb → (h.update tb (Obj.mapFields (·.setIfInBounds 3 x))).get? b = h.get? b := fun b nb => Heap.get?_update_other _ _ (Ne.symm nb)
  obtain ⟨oa, od, vs, sl, e, tr, r⟩ := I.objs a _ hs
  obtain ⟨I', k⟩ := I.store (h' := h.update tb (Obj.mapFields (·.setIfInBounds 3 x))) (mo' := .exc C l) hs
    (fun b o e1 e2 => (oth b fun z => by subst z; exact e2 ho).trans e1)
    (fun b o eb gg => by
      by_cases z : b = tb
      · subst z; rw [g] at gg; cases gg; exact ⟨_, g', c'⟩
      · exact ⟨o, (oth b z).trans gg, rfl⟩)
    (fun tk => ⟨od, vs, sl, (oth a (Ne.symm ne)).trans e, by
      rcases tr with ⟨tr, tn⟩ | ⟨t', ot', ts', e1, e2, e3, e4, e5, e6, e7⟩
      · exact absurd hc (tn tb ot ho g)
      · by_cases z : t' = tb
        · subst z
          rw [g] at e4; cases e4
          exact .inr ⟨t', _, _, e1, ho, ne, g', d', by rw [Array.size_setIfInBounds]; exact sz, c'.trans hc⟩
        · exact .inr ⟨t', ot', ts', e1, e2, e3, (oth t' z).trans e4, e5, e6, e7⟩, by
      rcases r with r | ⟨dx, es, n, e1, e2, e3, e4, r⟩
      · exact .inl r
      · refine .inr ⟨dx, es, n, e1, e2, e3, (oth dx fun z => ?_).trans e4, r.tk tk⟩
        subst z; rw [g] at e4; cases e4; cases d⟩)
  rw [put_self hs] at I'
  exact ⟨I', k, tb, _, ho, g', c'.trans hc⟩
theorem flight_sound (I : Inv cx fs own σ h) {a C : Addr} {l : List (Nat × MV)} {fr : Option Addr} (hs : σ a = some (.exc C l)) {Q : Unit → Shared → Prop}
    (k : ∀ h', Inv cx fs own σ h' → Keep fs own noX h h' → Q () (cx.mk' h' t)) : wpAny M A (setFlight (.ref a) fr) Q E (cx.mk' h t) := by
  obtain ⟨oa, od, vs, sl, e, tr, r⟩ := I.objs a _ hs
  unfold setFlight
  rcases tr with ⟨tr, _⟩ | ⟨tb, ot, ts, e1, e2, e3, e4, e5, e6, e7⟩
  · refine wpAny_bind (wpAny_field (s := cx.mk' h t) e rfl tr ?_)
    rw [if_neg (by decide)]
    exact wpAny_pure (k h I (.refl ..))
  · refine wpAny_bind (wpAny_field (s := cx.mk' h t) e rfl e1 ?_)
    rw [if_pos (show (Value.ref tb != Value.none) = true from by simp)]
    obtain ⟨I', k', _⟩ := tb_upd (x := (fr.elim .none fun f => rawInt f)) I hs e2 e3 e4 e5 e6 e7
    exact wpAny_setField (s := cx.mk' h t) e4 e5 e6 (k _ I' k')
theorem Inv.slots (I : Inv cx fs own σ h) (hs : Heap.SlotsOnly (fs.filterMap (·.frame)) h h') : Inv cx fs own σ h' ∧ Keep fs own noX h h' := by
  have fa : ∀ b, b ∈ fs.filterMap (·.frame) → frameAddr fs b := fun b hb => by
    obtain ⟨e, he, hf⟩ := List.mem_filterMap.mp hb
    exact ⟨e, he, hf⟩
  obtain ⟨_, hs1, hs2⟩ := hs
  have same : ∀ b o, ¬ frameAddr fs b → h.get? b = some o → h'.get? b = some o := fun b o nb e => (hs1 b fun z => nb (fa b z)).trans e
  have fo : ∀ b, frameAddr fs b → own b = none ∧ cx.base.get? b = none ∧ ∃ o es n, h.get? b = some o ∧ o.data = .dict es n := fun b z => by
    obtain ⟨ev, hm, hf⟩ := z
    obtain ⟨L, o, es, n, f1, f2, f3, f4, f5, f7⟩ := I.frames ev hm
    rw [hf] at f1; cases f1
    exact ⟨f3, f2, o, es, n, f4, f5⟩
  obtain ⟨I', _⟩ := I.buts (h' := h') (X := frameAddr fs) (fun a x => by
    obtain ⟨g1, g2, o, es, n, g3, g4⟩ := fo a x
    obtain ⟨sl, g5⟩ := hs2 a o g3
    exact ⟨g1, g2, fun _ => ⟨_, es, n, g5, g4⟩, fun ys m z => by rw [g3] at z; cases z; cases g4⟩) same
  refine ⟨I', fun a o e => ?_, fun a o e n _ => ?_, fun a o x e _ g => ⟨o, same a o (fun z => by rw [(fo a z).1] at e; cases e) g, rfl⟩⟩
  · obtain ⟨sl, g⟩ := hs2 a o e
    exact ⟨_, g⟩
  · by_cases z : frameAddr fs a
    · exact .inr ⟨z, hs2 a o e⟩
    · exact .inl (same a o z e)
theorem Inv.funFrames (I : Inv cx fs own σ h) : h.FunFrames cx.base fs := by
  have : ∀ l : List Env, (∀ e ∈ l, e ∈ fs) → h.FunFrames cx.base l := fun l => by
    induction l with
    | nil => exact fun _ => trivial
    | cons e l ih =>
      intro hm
      obtain ⟨L, o, es, n, f1, f2, f3, f4, f5, f7⟩ := I.frames e (hm e (by simp))
      exact ⟨f7, ⟨L, o, f1, f2, f4, fun vs z => by rw [f5] at z; cases z⟩, ih fun e he => hm e (by simp [he])⟩
  exact this fs fun _ h => h
theorem entry_sound {outer : List Env} (hfr : A.frames = some (env :: outer)) (I : Inv cx (env :: outer) own σ h) {L a C : Addr} {l : List (Nat × MV)} {head : Value} {b : Bool} (hf : env.frame = some L) (hs : σ a = some (.exc C l)) {Q : Unit → Shared → Prop}
    (k : ∀ own' h', Inv cx (env :: outer) own' σ h' → OwnExt own own' h → Keep (env :: outer) own noX h h' → TrOn own' h' a → Q () (cx.mk' h' t)) :
    wpAny M A (do setField (.ref a) 1 (← EntryCells.newEntry head (← frameOf env) .none (rawInt L) .none (← entryPlaceOf L b))) Q E (cx.mk' h t) := by
  refine wpAny_bind (wpAny_frameOf_fun (s := cx.mk' h t) hfr I.funFrames hf fun h1 hsl => ?_)
  obtain ⟨I1, k1⟩ := I.slots hsl
  refine wpAny_bind (wpAny_entryPlaceOf fun pl hpl => ?_)
  unfold EntryCells.newEntry newFields
  refine wpAny_bind (wpAny_newObj_type ?_ (hpl.sizeOk5 _ _ _ _ _))
  obtain ⟨oa, od, vs, sl, e, tr, r⟩ := I1.objs a _ hs
  generalize hT : ({ cls := .type "traceback", dict := none, data := .fields ([head, .ref L, .none, rawInt L, .none] ++ (if pl.isEmpty then List.replicate 6 Value.none else pl)).toArray } : Obj) = oT
  have e2 : (h1.push oT).get? a = some ⟨.ref C, od, .fields vs, sl⟩ := Heap.get?_push_of_some _ e
  have sz : 1 < vs.size := by
    rcases tr with ⟨tr, _⟩ | ⟨_, _, _, tr, _⟩
    · exact (Array.getElem?_eq_some_iff.mp tr).1
    · exact (Array.getElem?_eq_some_iff.mp tr).1
  have eT : (h1.push oT).get? h1.objs.size = some oT := by rw [← hT]; exact Heap.get?_push_size h1 rfl
  have ne : a ≠ h1.objs.size := Nat.ne_of_lt (Heap.lt_size e)
  refine wpAny_setField (s := cx.mk' (h1.push oT) t) e2 rfl sz ?_
  have d3 := Obj.data_mapFields (o := ⟨.ref C, od, .fields vs, sl⟩) rfl (·.setIfInBounds 1 (Value.ref h1.objs.size))
  have g3 := Heap.get?_update_self (Obj.mapFields (·.setIfInBounds 1 (Value.ref h1.objs.size))) e2 (Obj.isFreed_of_fields d3)
  have oth : ∀ b o, b ≠ a → h1.get? b = some o → ((h1.push oT).update a (Obj.mapFields (·.setIfInBounds 1 (Value.ref h1.objs.size)))).get? b = some o := fun b o nb g => by
    rw [Heap.get?_update_other _ _ (Ne.symm nb)]; exact Heap.get?_push_of_some _ g
  have gT : ((h1.push oT).update a (Obj.mapFields (·.setIfInBounds 1 (Value.ref h1.objs.size)))).get? h1.objs.size = some oT := by rw [Heap.get?_update_other _ _ ne]; exact eT
  have oTc : oT.cls = .type "traceback" := by rw [← hT]
  have oTd : ∃ ts, oT.data = .fields ts ∧ 3 < ts.size := ⟨_, by rw [← hT], by simp only [List.size_toArray, List.length_append, List.length_cons, List.length_nil]; lia⟩
  obtain ⟨ts, oTd, oTs⟩ := oTd
  obtain ⟨x1, x2⟩ := ownAdd_ext (a := a) I1 (get?_size h1)
  have oT' : ownAdd own h1.objs.size a h1.objs.size = some a := by unfold ownAdd; rw [if_pos rfl]
  obtain ⟨I2, k2⟩ := I1.upd (h' := (h1.push oT).update a (Obj.mapFields (·.setIfInBounds 1 (Value.ref h1.objs.size)))) (mo := .exc C l) x1 x2 (fun b o e1 e2 => oth b o (fun z => by subst z; exact e2 oa) e1)
    (fun b eb => by
      by_cases z : b = h1.objs.size
      · subst z; exact ⟨base_size I1, _, gT, by rw [oTc]; exact fun z => clsNe0 (by decide) z⟩
      · unfold ownAdd at eb
        rw [if_neg z] at eb
        obtain ⟨z1, o, g, c⟩ := I1.ownd b a eb
        by_cases z2 : b = a
        · subst z2; exact ⟨z1, _, g3, by rw [Obj.cls_mapFields]; exact refNe C⟩
        · exact ⟨z1, o, oth b o z2 g, c⟩)
    (fun b o eb g => by
      by_cases z2 : b = a
      · subst z2; rw [e] at g; cases g; exact ⟨_, g3, Obj.cls_mapFields _ _⟩
      · exact ⟨o, oth b o z2 g, rfl⟩) (x1.up _ _ oa)
    (fun tk => ⟨od, vs.setIfInBounds 1 (Value.ref h1.objs.size), sl, g3, .inr ⟨h1.objs.size, oT, ts, by simp [sz], oT', Ne.symm ne, gT, oTd, oTs, oTc⟩, by
      rcases r with r | ⟨dx, es, n, e1, e2', e3, e4, r⟩
      · exact .inl r
      · exact .inr ⟨dx, es, n, e1, x1.up _ _ e2', e3, oth dx _ e3 e4, r.tk tk⟩⟩)
  rw [put_self hs] at I2
  exact k _ _ I2 (OwnExt.trans (.refl own h) k1 x1) (k1.trans (.refl own h) k2) ⟨h1.objs.size, oT, oT', gT, oTc⟩
theorem note_sound {outer : List Env} (hfr : A.frames = some (env :: outer)) (I : Inv cx (env :: outer) own σ h) {a C : Addr} {l : List (Nat × MV)} (hs : σ a = some (.exc C l)) {Q : Unit → Shared → Prop}
    (k : ∀ own' h', Inv cx (env :: outer) own' σ h' → OwnExt own own' h → Keep (env :: outer) own noX h h' → TrOn own' h' a → Q () (cx.mk' h' t)) : wpAny M A (noteFrame (.ref a) env) Q E (cx.mk' h t) := by
  obtain ⟨L, o, es, n, f1, _⟩ := I.frames env (by simp)
  obtain ⟨oa, od, vs, sl, e, tr, r⟩ := I.objs a _ hs
  unfold noteFrame
  simp only [f1]
  rcases tr with ⟨tr, _⟩ | ⟨tb, ot, ts, e1, e2, e3, e4, e5, e6, e7⟩
  · refine wpAny_bind (wpAny_field (s := cx.mk' h t) e rfl tr ?_)
    rw [if_neg (by decide)]
    exact entry_sound hfr I f1 hs k
  · refine wpAny_bind (wpAny_field (s := cx.mk' h t) e rfl e1 ?_)
    rw [if_pos (show (Value.ref tb != Value.none) = true from by simp)]
    refine wpAny_bind (wpAny_field (s := cx.mk' h t) e4 e5 (Array.getElem?_eq_getElem e6) ?_)
    by_cases q : (ts[3] == rawInt L) = true
    · rw [if_pos q]
      exact wpAny_pure (k own h I (.refl ..) (.refl ..) ⟨tb, ot, e2, e4, e7⟩)
    · rw [if_neg q]
      obtain ⟨I1, k1, _⟩ := tb_upd (x := .none) I hs e2 e3 e4 e5 e6 e7
      refine wpAny_bind (wpAny_setField (s := cx.mk' h t) e4 e5 e6 ?_)
      exact entry_sound hfr I1 f1 hs fun own' h' I' x' k' tr => k own' h' I' (OwnExt.trans (.refl own h) k1 x') (k1.trans (.refl own h) k') tr
theorem back_sound (I : Inv cx fs own σ h) {a C : Addr} {l : List (Nat × MV)} (hs : σ a = some (.exc C l)) (tr : TrOn own h a) {what : String} {fr : Option Addr} {Q : Unit → Shared → Prop}
    (k : ∀ h', Inv cx fs own σ h' → Keep fs own noX h h' → Q () (cx.mk' h' t)) : wpAny M A (do
      if (← field (.ref a) 1) == .none then unsupported what
      setFlight (.ref a) fr) Q E (cx.mk' h t) := by
  obtain ⟨oa, od, vs, sl, e, tr', r⟩ := I.objs a _ hs
  rcases tr' with ⟨_, tn⟩ | ⟨tb, ot, ts, e1, e2, e3, e4, e5, e6, e7⟩
  · obtain ⟨tb, o, z1, z2, z3⟩ := tr
    exact absurd z3 (tn tb o z1 z2)
  · refine wpAny_bind (wpAny_field (s := cx.mk' h t) e rfl e1 ?_)
    rw [if_neg (show ¬ (Value.ref tb == Value.none) = true from by simp)]
    exact flight_sound I hs k
end
end Mine
end
section
open PySem PySem.W PyProof.Rows PySem.Builtin.ObjectAttr
set_option maxRecDepth 20000
namespace Mine
noncomputable def isComp (e : Expr) : Bool := exE e false (xListComp := fun _ _ _ => true) (xSetComp := true) (xDictComp := true)
noncomputable def compA (nm : Nm) (tg v : Expr) : Bool := Nat.beq (tagE tg) 5 && (Nat.beq (tagE v) 20 && (nm.lookup (strE tg) == some .local && (tg.pos.line == v.pos.line && !((scopeE v).names.any fun (n, k) => n == strE tg && (k == .local || k == .cell)))))
noncomputable def isTupD (e : Expr) : Bool := exE e false (xList := fun _ => true) (xTuple := fun _ => true)
noncomputable def isSliceE (e : Expr) : Bool := exE e false (xSlice := fun _ _ _ => true)
noncomputable def augOk (op : Operator) : Bool := op == .Add || op == .Sub || op == .BitXor || op == .RShift
noncomputable def tgtsB (nm : Nm) (sc : Sc) : List Str → List Nat → Bool
  | [], [] => true
  | x :: xs, i :: is => sc.lookup x == some i && (nm.lookup x == some .local || nm.lookup x == some .cell) && tgtsB nm sc xs is
  | _, _ => false
noncomputable def srcB (K : Frag) (sy : List Str) (nm : Nm) (sc : Sc) (k : SrcK) (e1 e2 : ME) (iter : Expr) : Bool := match k with
  | .exp => isN e2 && chkE K sy nm sc e1 iter
  | .range => isN e2 && chkR K sy nm sc e1 iter
noncomputable def tagS : Stmt → Nat
  | .Expr _ _ => 1 | .Continue _ => 2 | .Return _ _ => 3 | .Assign _ _ _ => 4 | .AugAssign _ _ _ _ => 5 | .If _ _ _ _ => 6 | .While _ _ _ _ => 7 | .For _ _ _ _ _ => 8 | .Raise _ _ _ => 9 | .Try _ _ _ _ _ => 10 | _ => 0
noncomputable def PS : List (Stmt → Prop) := [fun _ => True, fun e => ∃ v p, e = .Expr v p, fun e => ∃ p, e = .Continue p, fun e => ∃ o p, e = .Return o p, fun e => ∃ ts v p, e = .Assign ts v p, fun e => ∃ t o v p, e = .AugAssign t o v p,
  fun e => ∃ t x y p, e = .If t x y p, fun e => ∃ t x y p, e = .While t x y p, fun e => ∃ t i x y p, e = .For t i x y p, fun e => ∃ o o' p, e = .Raise o o' p, fun e => ∃ x hs y f p, e = .Try x hs y f p]
noncomputable def PSat : Nat → List (Stmt → Prop) → Stmt → Prop
  | _, [], _ => True
  | 0, p :: _, e => p e
  | n + 1, _ :: l, e => PSat n l e
theorem tagS_spec (e : Stmt) : PSat (tagS e) PS e := by
  cases e with
  | Expr v p => exact Exists.intro v (Exists.intro p rfl)
  | Continue p => exact Exists.intro p rfl
  | Return v p => exact Exists.intro v (Exists.intro p rfl)
  | Assign t v p => exact Exists.intro t (Exists.intro v (Exists.intro p rfl))
  | AugAssign t o v p => exact Exists.intro t (Exists.intro o (Exists.intro v (Exists.intro p rfl)))
  | If t x y p => exact Exists.intro t (Exists.intro x (Exists.intro y (Exists.intro p rfl)))
  | While t x y p => exact Exists.intro t (Exists.intro x (Exists.intro y (Exists.intro p rfl)))
  | For t i x y p => exact Exists.intro t (Exists.intro i (Exists.intro x (Exists.intro y (Exists.intro p rfl))))
  | Raise o o' p => exact Exists.intro o (Exists.intro o' (Exists.intro p rfl))
  | Try x hs y f p => exact Exists.intro x (Exists.intro hs (Exists.intro y (Exists.intro f (Exists.intro p rfl))))
  | _ => exact trivial
noncomputable def dE0 : Expr := .Name "" ⟨0, 0, 0, 0⟩
noncomputable def exS {α : Type} (e : Stmt) (d : α) (xFunctionDef : Arguments → List Stmt → Scope → α := fun _ _ _ => d) (xClassDef : List Stmt → α := fun _ => d) (xReturn : Option Expr → α := fun _ => d) (xAssign : List Expr → Expr → α := fun _ _ => d) (xAugAssign : Expr → Operator → Expr → α := fun _ _ _ => d) (xFor : Expr → Expr → List Stmt → List Stmt → α := fun _ _ _ _ => d) (xWhile : Expr → List Stmt → List Stmt → α := fun _ _ _ => d) (xIf : Expr → List Stmt → List Stmt → α := fun _ _ _ => d) (xRaise : Option Expr → Option Expr → α := fun _ _ => d) (xTry : List Stmt → List ExceptHandler → List Stmt → List Stmt → α := fun _ _ _ _ => d) (xExpr : Expr → α := fun _ => d) : α := @Stmt.casesOn (fun _ => α) e (fun _ a1 a2 _ _ _ a6 _ _ _ => xFunctionDef a1 a2 a6) (fun _ _ _ _ _ _ _ _ _ _ => d) (fun _ _ _ a3 _ _ _ _ _ _ _ => xClassDef a3) (fun a0 _ => xReturn a0) (fun _ _ => d) (fun a0 a1 _ => xAssign a0 a1) (fun _ _ _ _ _ _ _ => d) (fun a0 a1 a2 _ => xAugAssign a0 a1 a2) (fun _ _ _ _ _ => d) (fun a0 a1 a2 a3 _ => xFor a0 a1 a2 a3) (fun _ _ _ _ _ => d) (fun a0 a1 a2 _ => xWhile a0 a1 a2) (fun a0 a1 a2 _ => xIf a0 a1 a2) (fun _ _ _ => d) (fun _ _ _ => d) (fun _ _ _ => d) (fun a0 a1 _ => xRaise a0 a1) (fun a0 a1 a2 a3 _ => xTry a0 a1 a2 a3) (fun _ _ _ _ _ => d) (fun _ _ _ => d) (fun _ _ => d) (fun _ _ _ _ => d) (fun _ _ => d) (fun _ _ => d) (fun a0 _ => xExpr a0) (fun _ => d) (fun _ => d) (fun _ => d)
noncomputable def valS (e : Stmt) : Expr := exS e dE0 (xAssign := fun _ v => v) (xAugAssign := fun _ _ v => v) (xFor := fun _ i _ _ => i) (xWhile := fun t _ _ => t) (xIf := fun t _ _ => t) (xExpr := fun x => x)
noncomputable def optS (e : Stmt) : Option Expr := exS e none (xReturn := fun x => x) (xRaise := fun o _ => o)
noncomputable def causeS (e : Stmt) : Option Expr := exS e none (xRaise := fun _ o => o)
noncomputable def tgsS (e : Stmt) : List Expr := exS e [] (xAssign := fun ts _ => ts) (xAugAssign := fun t _ _ => [t]) (xFor := fun t _ _ _ => [t])
noncomputable def bodyS (e : Stmt) : List Stmt := exS e [] (xFor := fun _ _ x _ => x) (xWhile := fun _ x _ => x) (xIf := fun _ x _ => x) (xTry := fun x _ _ _ => x)
noncomputable def elseS (e : Stmt) : List Stmt := exS e [] (xFor := fun _ _ _ x => x) (xWhile := fun _ _ x => x) (xIf := fun _ _ x => x) (xTry := fun _ _ x _ => x)
noncomputable def finS (e : Stmt) : List Stmt := exS e [] (xTry := fun _ _ _ x => x)
noncomputable def hsS (e : Stmt) : List ExceptHandler := exS e [] (xTry := fun _ x _ _ => x)
noncomputable def opS (e : Stmt) : Operator := exS e .Add (xAugAssign := fun _ o _ => o)
section
variable (K : Frag) (sy : List Str) (nm : Nm) (sc : Sc)
noncomputable def chkT : MT → Expr → Bool
  | .nm i, e => Nat.beq (tagE e) 5 && (sc.lookup (strE e) == some i && (nm.lookup (strE e) == some .local || nm.lookup (strE e) == some .cell))
  | .attr m n, e => Nat.beq (tagE e) 6 && (sy[n]? == some (strE e) && chkE K sy nm sc m (sub0 e))
  | .item a i, e => Nat.beq (tagE e) 7 && (chkE K sy nm sc a (sub0 e) && chkE K sy nm sc i (sub1 e))
  | .tup is, e => Nat.beq (tagE e) 16 && (match targetNames e with | some (tn, false) => tgtsB nm sc tn is | _ => false)
noncomputable def asgB (t : MT) (m : ME) (tg v : Expr) : Bool := chkE K sy nm sc m v && chkT K sy nm sc t tg && (!isComp v || compA nm tg v) && (!Nat.beq (tagE tg) 16 || !isTupD v)
noncomputable def augT (t : MT) (tg : Expr) : Bool := match t with | .nm _ => Nat.beq (tagE tg) 5 && notWord (strE tg) | .attr .. => true | _ => false
noncomputable def forT (t : MT) (tg : Expr) : Bool := match t with
  | .nm i => Nat.beq (tagE tg) 5 && tgtsB nm sc [strE tg] [i]
  | .tup is => (match targetNames tg with | some (tn, false) => tgtsB nm sc tn is | _ => false)
  | _ => false
noncomputable def isSm (f : Expr → Bool) (o : Option Expr) : Bool := match o with | some v => f v | none => false
noncomputable def nil {α : Type} (l : List α) : Bool := match l with | [] => true | _ :: _ => false
noncomputable def hdl (f : List Stmt → Bool) (ty : ME) (i : Nat) (h : ExceptHandler) : Bool := match h with
  | ⟨t, n, b, _⟩ => match n with
    | some n => isSm (chkE K sy nm sc ty) t && !nil b && f b && sc.lookup n == some i && nm.lookup n == some .local
    | none => false
mutual
noncomputable def chkS : MS → Stmt → Bool
  | .expr m, st => Nat.beq (tagS st) 1 && (chkE K sy nm sc m (valS st) && !isComp (valS st))
  | .cont, st => Nat.beq (tagS st) 2 && true
  | .ret m, st => Nat.beq (tagS st) 3 && isSm (chkE K sy nm sc m) (optS st)
  | .asg t m, st => Nat.beq (tagS st) 4 && (oneL (tgsS st) && asgB K sy nm sc t m (headE (tgsS st) dE0) (valS st))
  | .aug t op m, st => Nat.beq (tagS st) 5 && (op == opS st && augOk op && chkE K sy nm sc m (valS st) && chkT K sy nm sc t (headE (tgsS st) dE0) && augT t (headE (tgsS st) dE0))
  | .ite c a b, st => Nat.beq (tagS st) 6 && (chkE K sy nm sc c (valS st) && chkSs a (bodyS st) && chkSs b (elseS st))
  | .whl c b, st => Nat.beq (tagS st) 7 && (nil (elseS st) && (chkE K sy nm sc c (valS st) && chkSs b (bodyS st)))
  | .for t k e1 e2 b, st => Nat.beq (tagS st) 8 && (nil (elseS st) && (srcB K sy nm sc k e1 e2 (valS st) && !isSet (valS st) && chkSs b (bodyS st) && forT nm sc t (headE (tgsS st) dE0)))
  | .rse m, st => Nat.beq (tagS st) 9 && ((causeS st).isNone && isSm (chkE K sy nm sc m) (optS st))
  | .tryF b f, st => Nat.beq (tagS st) 10 && (nil (hsS st) && nil (elseS st) && !nil (finS st) && (chkSs b (bodyS st) && chkSs f (finS st)))
  | .tryX b ty i hb, st => Nat.beq (tagS st) 10 && (nil (elseS st) && nil (finS st) && (chkSs b (bodyS st) && (match hsS st with | h :: hs => nil hs && hdl K sy nm sc (chkSs hb) ty i h | [] => false)))
noncomputable def chkSs : List MS → List Stmt → Bool
  | [], sts => match sts with | [] => true | _ :: _ => false
  | m :: ms, sts => match sts with | st :: rest => chkS m st && chkSs ms rest | [] => false
end
end
section
variable {K : Frag} {sy : List Str} {nm : Nm} {sc : Sc} {st : Stmt}
theorem nil_inv {α : Type} {l : List α} (c : nil l = true) : l = [] := by
  cases l with
  | nil => rfl
  | cons _ _ => exact (Bool.false_ne_true c).elim
theorem cons_inv {α : Type} {l : List α} (c : (!nil l) = true) : ∃ x y, l = x :: y := by
  cases l with
  | nil => exact (Bool.false_ne_true c).elim
  | cons x y => exact ⟨x, y, rfl⟩
theorem isSm_inv {f : Expr → Bool} {o : Option Expr} (c : isSm f o = true) : ∃ v, o = some v ∧ f v = true := by
  cases o with
  | none => exact (Bool.false_ne_true c).elim
  | some v => exact ⟨v, rfl, c⟩
theorem and2 {a b : Bool} (c : (a && b) = true) : a = true ∧ b = true := Bool.and_eq_true_iff.mp c
theorem tgs (n : Nat) {x : Bool} (c : (Nat.beq (tagS st) n && x) = true) : PSat n PS st ∧ x = true :=
  ⟨Nat.eq_of_beq_eq_true (and2 c).1 ▸ tagS_spec st, (and2 c).2⟩
theorem iT_nm {i : Nat} {e : Expr} (c : chkT K sy nm sc (.nm i) e = true) : ∃ x p, e = .Name x p ∧ (sc.lookup x == some i && (nm.lookup x == some .local || nm.lookup x == some .cell)) = true := by
  obtain ⟨⟨x, p, rfl⟩, c⟩ := tgE 5 c
  exact ⟨x, p, rfl, c⟩
theorem iT_attr {m : ME} {n : Nat} {e : Expr} (c : chkT K sy nm sc (.attr m n) e = true) : ∃ o a p, e = .Attribute o a p ∧ (sy[n]? == some a && chkE K sy nm sc m o) = true := by
  obtain ⟨⟨x, a, p, rfl⟩, c⟩ := tgE 6 c
  exact ⟨x, a, p, rfl, c⟩
theorem iT_item {m i : ME} {e : Expr} (c : chkT K sy nm sc (.item m i) e = true) : ∃ o s p, e = .Subscript o s p ∧ (chkE K sy nm sc m o && chkE K sy nm sc i s) = true := by
  obtain ⟨⟨x, a, p, rfl⟩, c⟩ := tgE 7 c
  exact ⟨x, a, p, rfl, c⟩
theorem names_inv {is : List Nat} {e : Expr} (c : (match targetNames e with | some (tn, false) => tgtsB nm sc tn is | _ => false) = true) : ∃ tn, targetNames e = some (tn, false) ∧ tgtsB nm sc tn is = true := by
  cases h : targetNames e with
  | none => rw [h] at c; exact (Bool.false_ne_true c).elim
  | some o =>
    obtain ⟨tn, b⟩ := o
    rw [h] at c
    cases b with
    | false => exact ⟨tn, rfl, c⟩
    | true => exact (Bool.false_ne_true c).elim
theorem iT_tup {is : List Nat} {e : Expr} (c : chkT K sy nm sc (.tup is) e = true) : ∃ es x p tn, e = .Tuple es x p ∧ targetNames (.Tuple es x p) = some (tn, false) ∧ tgtsB nm sc tn is = true := by
  obtain ⟨⟨es, x, p, rfl⟩, c⟩ := tgE 16 c
  obtain ⟨tn, c⟩ := names_inv c
  exact ⟨es, x, p, tn, rfl, c⟩
theorem iS_asg {t : MT} {m : ME} (c : chkS K sy nm sc (.asg t m) st = true) : ∃ tg v pos, st = .Assign [tg] v pos ∧ (chkE K sy nm sc m v && chkT K sy nm sc t tg && (!isComp v || compA nm tg v) && (!Nat.beq (tagE tg) 16 || !isTupD v)) = true := by
  obtain ⟨⟨ts, v, p, rfl⟩, c⟩ := tgs 4 c
  obtain ⟨c1, c⟩ := and2 c
  obtain ⟨tg, e⟩ := one_inv c1
  replace e : ts = _ := e
  subst e
  exact ⟨tg, v, p, rfl, c⟩
theorem iS_aug {t : MT} {op : Operator} {m : ME} (c : chkS K sy nm sc (.aug t op m) st = true) : ∃ tg o v pos, st = .AugAssign tg o v pos ∧ (op == o && augOk op && chkE K sy nm sc m v && chkT K sy nm sc t tg && augT t tg) = true := by
  obtain ⟨⟨tg, o, v, p, rfl⟩, c⟩ := tgs 5 c
  exact ⟨tg, o, v, p, rfl, c⟩
theorem iS_whl {m : ME} {b : List MS} (c : chkS K sy nm sc (.whl m b) st = true) : ∃ t x p, st = .While t x [] p ∧ (chkE K sy nm sc m t && chkSs K sy nm sc b x) = true := by
  obtain ⟨⟨t, x, y, p, rfl⟩, c⟩ := tgs 7 c
  obtain ⟨c1, c⟩ := and2 c
  obtain rfl : y = [] := nil_inv c1
  exact ⟨t, x, p, rfl, c⟩
theorem iS_for {t : MT} {k : SrcK} {e1 e2 : ME} {b : List MS} (c : chkS K sy nm sc (.for t k e1 e2 b) st = true) : ∃ tg iter x p, st = .For tg iter x [] p ∧ (srcB K sy nm sc k e1 e2 iter && !isSet iter && chkSs K sy nm sc b x && forT nm sc t tg) = true := by
  obtain ⟨⟨t, i, x, y, p, rfl⟩, c⟩ := tgs 8 c
  obtain ⟨c1, c⟩ := and2 c
  obtain rfl : y = [] := nil_inv c1
  exact ⟨t, i, x, p, rfl, c⟩
theorem iS_rse {m : ME} (c : chkS K sy nm sc (.rse m) st = true) : ∃ v p, st = .Raise (some v) none p ∧ chkE K sy nm sc m v = true := by
  obtain ⟨⟨o, o', p, rfl⟩, c⟩ := tgs 9 c
  obtain ⟨c1, c⟩ := and2 c
  obtain rfl : o' = none := Option.isNone_iff_eq_none.mp c1
  obtain ⟨v, e, c⟩ := isSm_inv c
  replace e : o = _ := e
  subst e
  exact ⟨v, p, rfl, c⟩
theorem iS_tryF {b f : List MS} (c : chkS K sy nm sc (.tryF b f) st = true) : ∃ x f0 fr p, st = .Try x [] [] (f0 :: fr) p ∧ (chkSs K sy nm sc b x && chkSs K sy nm sc f (f0 :: fr)) = true := by
  obtain ⟨⟨x, hs, y, fi, p, rfl⟩, c⟩ := tgs 10 c
  obtain ⟨c1, c⟩ := and2 c
  obtain ⟨c1, c3⟩ := and2 c1
  obtain ⟨c1, c2⟩ := and2 c1
  obtain rfl : hs = [] := nil_inv c1
  obtain rfl : y = [] := nil_inv c2
  obtain ⟨f0, fr, e⟩ := cons_inv c3
  replace e : fi = _ := e
  subst e
  exact ⟨x, f0, fr, p, rfl, c⟩
theorem hdl_inv {f : List Stmt → Bool} {ty : ME} {i : Nat} {h : ExceptHandler} (c : hdl K sy nm sc f ty i h = true) : ∃ t n h0 hr p, h = .ExceptHandler (some t) (some n) (h0 :: hr) p ∧ chkE K sy nm sc ty t = true ∧ f (h0 :: hr) = true ∧ (sc.lookup n == some i) = true ∧ (nm.lookup n == some .local) = true := by
  obtain ⟨t, n, b, p⟩ := h
  cases n with
  | none => exact (Bool.false_ne_true c).elim
  | some n =>
    obtain ⟨c, c5⟩ := and2 c
    obtain ⟨c, c4⟩ := and2 c
    obtain ⟨c, c3⟩ := and2 c
    obtain ⟨c1, c2⟩ := and2 c
    obtain ⟨t, rfl, c1⟩ := isSm_inv c1
    obtain ⟨h0, hr, rfl⟩ := cons_inv c2
    exact ⟨t, n, h0, hr, p, rfl, c1, c3, c4, c5⟩
theorem iS_tryX {b : List MS} {ty : ME} {i : Nat} {hb : List MS} (c : chkS K sy nm sc (.tryX b ty i hb) st = true) : ∃ x t n h0 hr p q, st = .Try x [.ExceptHandler (some t) (some n) (h0 :: hr) p] [] [] q ∧ chkSs K sy nm sc b x = true ∧ chkE K sy nm sc ty t = true ∧ chkSs K sy nm sc hb (h0 :: hr) = true ∧ (sc.lookup n == some i) = true ∧ (nm.lookup n == some .local) = true := by
  obtain ⟨⟨x, hs, y, fi, p, rfl⟩, c⟩ := tgs 10 c
  obtain ⟨c1, c⟩ := and2 c
  obtain ⟨c1, c2⟩ := and2 c1
  obtain rfl : y = [] := nil_inv c1
  obtain rfl : fi = [] := nil_inv c2
  obtain ⟨c1, c⟩ := and2 c
  cases hs with
  | nil => exact (Bool.false_ne_true c).elim
  | cons eh hs =>
    obtain ⟨c2, c⟩ := and2 c
    obtain rfl : hs = [] := nil_inv c2
    obtain ⟨t, n, h0, hr, q, rfl, d⟩ := hdl_inv c
    exact ⟨x, t, n, h0, hr, q, p, rfl, c1, d⟩
theorem iS_expr {m : ME} (c : chkS K sy nm sc (.expr m) st = true) : ∃ v p, st = .Expr v p ∧ (chkE K sy nm sc m v && !isComp v) = true := by
  obtain ⟨⟨v, p, rfl⟩, c⟩ := tgs 1 c
  exact ⟨v, p, rfl, c⟩
theorem iS_cont (c : chkS K sy nm sc .cont st = true) : ∃ p, st = .Continue p := (tgs 2 c).1
theorem iS_ret {m : ME} (c : chkS K sy nm sc (.ret m) st = true) : ∃ v p, st = .Return (some v) p ∧ chkE K sy nm sc m v = true := by
  obtain ⟨⟨o, p, rfl⟩, c⟩ := tgs 3 c
  obtain ⟨v, e, c⟩ := isSm_inv c
  replace e : o = _ := e
  subst e
  exact ⟨v, p, rfl, c⟩
theorem iS_ite {m : ME} {a b : List MS} (c : chkS K sy nm sc (.ite m a b) st = true) : ∃ t x y p, st = .If t x y p ∧ (chkE K sy nm sc m t && chkSs K sy nm sc a x && chkSs K sy nm sc b y) = true := by
  obtain ⟨⟨t, x, y, p, rfl⟩, c⟩ := tgs 6 c
  exact ⟨t, x, y, p, rfl, c⟩
end
section
variable {T : Tab} (cx : Cx T)
inductive SPst {α : Type} (fs : List Env) (env : Env) (sc : Sc) (own : Addr → Option Addr) (h : Heap) (P : α → Loc → Hp → Heap → Prop) (v : α) (s' : Shared) : Prop where
  | mk (h' : Heap) (t' : Nat) (own' : Addr → Option Addr) (σ' : Hp) (loc' : Loc) (e : s' = cx.mk' h' t') (I : Inv cx fs own' σ' h') (x : OwnExt own own' h) (k : Keep fs own (frameX env sc) h h') (R : ERel cx env sc loc' own' h') (p : P v loc' σ' h')
noncomputable def FlowQ (Q : Out → Loc → Hp → Prop) (f : Flow) (loc : Loc) (σ : Hp) (h : Heap) : Prop := match f with
  | .next => Q .next loc σ
  | .cont => Q .cont loc σ
  | .brk => Q .brk loc σ
  | .ret v => VQ (T := T) (fun m σ1 => Q (.ret m) loc σ1) v σ h
inductive ExQ (E : MV → Loc → Hp → Prop) (e : Value) (loc : Loc) (σ : Hp) (h : Heap) : Prop where
  | mk (a C : Addr) (fs : List (Nat × MV)) (ea : e = .ref a) (hs : σ a = some (.exc C fs)) (q : E (.ref a) loc σ)
noncomputable def LocQ {α : Type} (Q : Loc → Hp → Prop) (_ : α) (loc : Loc) (σ : Hp) (_ : Heap) : Prop := Q loc σ
noncomputable def SndS (CS : CSpec) (s : MS) : Prop := ∀ nm sc st, chkS cx.K T.sym nm sc s st = true → ∀ A outer r env loc own σ h t Q E, Here cx A (env :: outer) r env nm sc loc own σ h → swp T CS r s loc σ Q E →
  wpAny (model cx.prog cx.w) A (exec st env) (SPst cx (env :: outer) env sc own h (FlowQ (T := T) Q)) (SPst cx (env :: outer) env sc own h (ExQ E)) (cx.mk' h t)
noncomputable def SndSs (CS : CSpec) (ss : List MS) : Prop := ∀ nm sc sts, chkSs cx.K T.sym nm sc ss sts = true → ∀ A outer r env loc own σ h t Q E, Here cx A (env :: outer) r env nm sc loc own σ h → swps T CS r ss loc σ Q E →
  wpAny (model cx.prog cx.w) A (execs sts env) (SPst cx (env :: outer) env sc own h (FlowQ (T := T) Q)) (SPst cx (env :: outer) env sc own h (ExQ E)) (cx.mk' h t)
end
section
variable {T : Tab} {cx : Cx T} {CS : CSpec} {A : Around} {fs outer : List Env} {r : Nat} {env : Env} {nm : Nm} {sc : Sc} {loc loc2 : Loc} {own own1 own' : Addr → Option Addr} {σ σ1 : Hp} {h h0 h1 h2 h' : Heap} {t : Nat} {X Y : Addr → Prop} {M : Model}
variable {α β : Type} {P : α → Loc → Hp → Heap → Prop} {v : α} {s s' : Shared}
theorem SPst.up (x : OwnExt own own1 h) (k : Keep fs own (frameX env sc) h h1) (p : SPst cx fs env sc own1 h1 P v s') : SPst cx fs env sc own h P v s' := by
  obtain ⟨h', t', own', σ', loc', e, I, x', k', R, q⟩ := p
  exact ⟨h', t', own', σ', loc', e, I, x.trans k x', k.trans x k', R, q⟩
theorem Keep.wide (k : Keep fs own noX h h1) : Keep fs own X h h1 := k.mono fun _ z => z.elim
theorem SPst.here (I : Inv cx fs own σ h) (R : ERel cx env sc loc own h) (q : P v loc σ h) : SPst cx fs env sc own h P v (cx.mk' h t) := ⟨h, t, own, σ, loc, rfl, I, .refl .., .refl .., R, q⟩
theorem SPst.imp {P' : α → Loc → Hp → Heap → Prop} (f : ∀ v loc σ h, P v loc σ h → P' v loc σ h) (p : SPst cx fs env sc own h P v s') : SPst cx fs env sc own h P' v s' := by
  obtain ⟨h', t', own', σ', loc', e, I, x', k', R, q⟩ := p
  exact ⟨h', t', own', σ', loc', e, I, x', k', R, f _ _ _ _ q⟩
theorem SPst.flow {Q : Out → Loc → Hp → Prop} {u : Unit} (p : SPst cx fs env sc own h (LocQ fun l σ1 => Q .next l σ1) u s') : SPst cx fs env sc own h (FlowQ (T := T) Q) .next s' := by
  obtain ⟨h', t', own', σ', loc', e, I, x', k', R, q⟩ := p
  exact ⟨h', t', own', σ', loc', e, I, x', k', R, q⟩
theorem err_of (H : Here cx A fs r env nm sc loc own σ h) {E : MV → Loc → Hp → Prop} {e : Value} (p : Pst cx fs noX own h (EQ fun x σ1 => E x loc σ1) e s') : SPst cx fs env sc own h (ExQ E) e s' := by
  obtain ⟨h', t', own', σ', z, I, x, k, a, C, fs', ea, hs, q⟩ := p
  exact ⟨h', t', own', σ', loc, z, I, x, k.wide, H.rel.keep x k (H.inv.tk0 k), a, C, fs', ea, hs, q⟩
theorem estep {P : α → Hp → Heap → Prop} {c : Sem α} {E : MV → Loc → Hp → Prop} {R : α → Shared → Prop} (H : Here cx A fs r env nm sc loc own σ h)
    (W : wpAny (model cx.prog cx.w) A c (Pst cx fs noX own h P) (Pst cx fs noX own h (EQ fun x σ1 => E x loc σ1)) s)
    (f : ∀ v own1 σ1 h1 t1, Here cx A fs r env nm sc loc own1 σ1 h1 → OwnExt own own1 h → Keep fs own noX h h1 → TK h h1 → P v σ1 h1 → R v (cx.mk' h1 t1)) :
    wpAny (model cx.prog cx.w) A c R (SPst cx fs env sc own h (ExQ E)) s :=
  wpAny_seq W (fun _ _ e => err_of H e) fun v own1 σ1 h1 t1 I x k p => f v own1 σ1 h1 t1 (H.go I x k) x k (H.inv.tk0 k) p
theorem sbind {c : Sem β} {P' : β → Loc → Hp → Heap → Prop} {E : MV → Loc → Hp → Prop} (x : OwnExt own own1 h) (k : Keep fs own (frameX env sc) h h1)
    (W : wpAny M A c (SPst cx fs env sc own1 h1 P') (SPst cx fs env sc own1 h1 (ExQ E)) s) : wpAny M A c (SPst cx fs env sc own h P') (SPst cx fs env sc own h (ExQ E)) s :=
  wpAny_mono W (fun _ _ q => q.up x k) fun _ _ q => q.up x k
theorem interactive_no (S : EStat env nm) : interactive env = false := by
  unfold interactive; rw [S.kind]; rfl
theorem swaps_no {v : Expr} (hc : isComp v = false) (tg : Option Expr) (l : Nat) : swapsWith v tg l env = pure false := by
  cases v <;> first | rfl | cases hc
theorem ssound_expr {m : ME} (s1 : SndE cx CS m) : SndS cx CS (.expr m) := fun nm sc st c A outer r env loc own σ h t Q E H q => by
  replace c := iS_expr c; obtain ⟨v, pos, rfl, c⟩ := c
  simp only [Bool.and_eq_true, Bool.not_eq_true'] at c
  refine wpAny_Expr_any ?_ (interactive_no H.stat) (swaps_no c.2 _ _)
  refine estep H (s1 nm sc v c.1 A _ r env loc own σ h t _ _ H q) fun u own1 σ1 h1 t1 H1 x k tk p => ?_
  obtain ⟨m, _, p⟩ := p
  exact SPst.up x k.wide (SPst.here H1.inv H1.rel p)
theorem ssound_cont : SndS cx CS .cont := fun nm sc st c A outer r env loc own σ h t Q E H q => by
  replace c := iS_cont c; obtain ⟨_, rfl⟩ := c
  exact wpAny_Continue (SPst.here H.inv H.rel (P := FlowQ Q) q)
theorem ssound_ret {m : ME} (s1 : SndE cx CS m) : SndS cx CS (.ret m) := fun nm sc st c A outer r env loc own σ h t Q E H q => by
  replace c := iS_ret c; obtain ⟨v, pos, rfl, c⟩ := c
  refine wpAny_Return_some ?_
  refine estep H (s1 nm sc v c A _ r env loc own σ h t _ _ H q) fun u own1 σ1 h1 t1 H1 x k tk p => ?_
  exact SPst.up x k.wide (SPst.here H1.inv H1.rel p)
theorem ssound_ite {m : ME} {a b : List MS} (sT : SndT cx CS m) (sa : SndSs cx CS a) (sb : SndSs cx CS b) : SndS cx CS (.ite m a b) := fun nm sc st c A outer r env loc own σ h t Q E H q => by
  replace c := iS_ite c; obtain ⟨e, y, z, pos, rfl, c⟩ := c
  simp only [Bool.and_eq_true] at c
  refine wpAny_If ?_
  refine estep H (sT nm sc e c.1.1 A _ r env loc own σ h t _ _ H q) fun b own1 σ1 h1 t1 H1 x k tk p => ?_
  have p : (if b then swps T CS r _ loc σ1 Q E else swps T CS r _ loc σ1 Q E) := p
  cases b with
  | true => exact sbind x k.wide (sa nm sc y c.1.2 A outer r env loc own1 σ1 h1 t1 Q E H1 p)
  | false => exact sbind x k.wide (sb nm sc z c.2 A outer r env loc own1 σ1 h1 t1 Q E H1 p)
theorem ssound_nil : SndSs cx CS [] := fun nm sc sts c A outer r env loc own σ h t Q E H q => by
  cases sts with
  | nil => exact wpAny_execs_nil (SPst.here H.inv H.rel (P := FlowQ Q) q)
  | cons _ _ => exact (Bool.false_ne_true c).elim
theorem ssound_cons {m : MS} {ms : List MS} (s1 : SndS cx CS m) (s2 : SndSs cx CS ms) : SndSs cx CS (m :: ms) := fun nm sc sts c A outer r env loc own σ h t Q E H q => by
  cases sts with
  | nil => exact (Bool.false_ne_true c).elim
  | cons st rest =>
    replace c := Bool.and_eq_true_iff.mp (show (chkS cx.K T.sym nm sc m st && chkSs cx.K T.sym nm sc ms rest) = true from c)
    refine wpAny_execs_cons ?_
    refine wpAny_mono (s1 nm sc st c.1 A outer r env loc own σ h t _ E H q) (fun f s' p => ?_) fun _ _ e => e
    obtain ⟨h', t', own', σ', loc', rfl, I, x, k, R, p⟩ := p
    cases f with
    | next => exact sbind x k (s2 nm sc rest c.2 A outer r env loc' own' σ' h' t' Q E ⟨H.around, H.stat, I, R⟩ p)
    | cont => exact ⟨h', t', own', σ', loc', rfl, I, x, k, R, p⟩
    | brk => exact ⟨h', t', own', σ', loc', rfl, I, x, k, R, p⟩
    | ret v => exact ⟨h', t', own', σ', loc', rfl, I, x, k, R, p⟩
theorem tgtsB_ok : ∀ {tn : List Str} {ti : List Nat}, tgtsB nm sc tn ti = true → TgtsOk nm sc tn ti
  | [], [], _ => trivial
  | x :: xs, i :: is, c => by
    replace c : (sc.lookup x == some i && (nm.lookup x == some .local || nm.lookup x == some .cell) && tgtsB nm sc xs is) = true := c
    simp only [Bool.and_eq_true, Bool.or_eq_true, beq_iff_eq] at c
    exact ⟨⟨c.1.1, c.1.2⟩, tgtsB_ok c.2⟩
  | [], _ :: _, c => by cases c
  | _ :: _, [], c => by cases c
theorem TgtsOk.scs : ∀ {tn : List Str} {ti : List Nat}, TgtsOk nm sc tn ti → ∀ y ∈ tn, ∃ i, sc.lookup y = some i
  | [], [], _, y, h => by cases h
  | x :: xs, i :: is, c, y, h => by
    rcases List.mem_cons.mp h with rfl | h
    · exact ⟨i, c.1.1⟩
    · exact TgtsOk.scs c.2 y h
  | [], _ :: _, c, _, _ => c.elim
  | _ :: _, [], c, _, _ => c.elim
theorem asg_sound {tm : MT} {tg : Expr} (se : ∀ e, SndE cx CS e) (c : chkT cx.K T.sym nm sc tm tg = true) {m : MV} {v : Value} (H : Here cx A fs r env nm sc loc own σ h) (rv : VRel T.sym h m v) {K : Loc → Hp → Prop} {E : MV → Loc → Hp → Prop}
    (q : asgP T CS r tm m loc σ K fun x σ2 => E x loc σ2) : wpAny (model cx.prog cx.w) A (assign tg env v) (SPst cx fs env sc own h (LocQ K)) (SPst cx fs env sc own h (ExQ E)) (cx.mk' h t) := by
  cases tm with
  | nm i =>
    replace c := iT_nm c; obtain ⟨x, p, rfl, c⟩ := c
    simp only [Bool.and_eq_true, Bool.or_eq_true, beq_iff_eq] at c
    obtain ⟨_, q⟩ := setP_inv q
    refine wpAny_assign_Name (store_sound H.stat H.inv H.rel c.1 c.2 rv fun h' t' I' R' Hd tk => ?_)
    exact ⟨h', t', own, σ, _, rfl, I', .refl .., (Keep.refl ..).hid Hd (fun a z => .inl (wrX_frame (fun y hy => by simp at hy; subst hy; exact ⟨_, c.1⟩) z)), R', q⟩
  | attr e n =>
    replace c := iT_attr c; obtain ⟨o, a, p, rfl, c⟩ := c
    simp only [Bool.and_eq_true, beq_iff_eq] at c
    show wpAny _ A (do
      let ov ← holding [v] (eval o env)
      standAt p.atName
      holding [v, ov] (setAttr ov a v)
      release [v, ov] []) _ _ _
    refine wpAny_bind (wpAny_holding ?_)
    refine estep H (se e nm sc o c.2 A fs r env loc own σ h t _ _ H q) fun ov own1 σ1 h1 t1 H1 x k tk p => ?_
    obtain ⟨om, ro, p⟩ := p
    refine wpAny_bind (wpAny_standAt (wpAny_bind (wpAny_holding ?_)))
    refine wpAny_seq (setattr_sound (X := noX) (E := SPst cx fs env sc own h (ExQ E)) H1.inv c.1 ro (rv.tk tk) p) (fun _ _ e => e) fun _ own2 σ2 h2 t2 I2 x2 k2 p2 => ?_
    refine wpAny_release' ?_
    exact ((SPst.here I2 (H1.go I2 x2 k2).rel (P := LocQ K) p2).up x2 k2.wide).up x k.wide
  | item e i =>
    replace c := iT_item c; obtain ⟨o, s, p, rfl, c⟩ := c
    rw [Bool.and_eq_true] at c
    have e0 : assign (.Subscript o s p) env v = (do
      let ov ← holding [v] (eval o env)
      let iv ← holding [v, ov] (eval s env)
      standAt p
      holding [v, ov, iv] (setItem ov iv v)
      release [v, ov, iv] []) := by
      cases s <;> first | rfl | (exfalso; have c2 := c.2; cases i <;> exact Bool.false_ne_true c2)
    rw [e0]
    refine wpAny_bind (wpAny_holding ?_)
    refine estep H (se e nm sc o c.1 A fs r env loc own σ h t _ _ H q) fun ov own1 σ1 h1 t1 H1 x k tk p => ?_
    obtain ⟨om, ro, p⟩ := p
    refine wpAny_bind (wpAny_holding ?_)
    refine wpAny_mono (estep (R := fun iv s2 => wpAny (model cx.prog cx.w) A (do
      standAt _
      holding [v, ov, iv] (setItem ov iv v)
      release [v, ov, iv] []) (SPst cx fs env sc own h (LocQ K)) (SPst cx fs env sc own h (ExQ E)) s2) (E := E) H1 (se i nm sc s c.2 A fs r env loc own1 σ1 h1 t1 _ _ H1 p) fun iv own2 σ2 h2 t2 H2 x2 k2 tk2 p2 => ?_) (fun _ _ z => z) fun _ _ z => z.up x k.wide
    obtain ⟨im, ri, p2⟩ := p2
    refine wpAny_bind (wpAny_standAt (wpAny_bind (wpAny_holding ?_)))
    refine wpAny_seq (setItem_sound (X := noX) (E := SPst cx fs env sc own h (ExQ E)) H2.inv (ro.tk tk2) ri ((rv.tk tk).tk tk2) p2) (fun _ _ e => e) fun _ own3 σ3 h3 t3 I3 x3 k3 p3 => ?_
    refine wpAny_release' ?_
    exact (((SPst.here I3 (H2.go I3 x3 k3).rel (P := LocQ K) p3).up x3 k3.wide).up x2 k2.wide).up x k.wide
  | tup is =>
    replace c := iT_tup c; obtain ⟨es, x1, p, tn, rfl, ht, c⟩ := c
    · skip
      obtain ⟨hr, q⟩ := q
      have ok := tgtsB_ok c
      have qq : bindP is false m loc fun loc' => K loc' σ := by
        clear rv
        cases m with
        | tup xs => exact manyP_inv q
        | _ => exact False.elim q
      refine bind_sound (K := fun loc' => K loc' σ) (H.around.hd hr) H.stat H.inv H.rel ht ok rv qq fun loc' h' t' q I' R' Hd tk => ?_
      · exact ⟨h', t', own, σ, loc', rfl, I', .refl .., (Keep.refl ..).hid Hd (fun a z => .inl (wrX_frame ok.scs z)), R', q⟩
end
end Mine
end
section
open PySem PySem.W PyProof.Rows PySem.Builtin.ObjectAttr
set_option maxRecDepth 20000
namespace Mine
section
variable {T : Tab} {cx : Cx T} {CS : CSpec} {A : Around} {fs outer : List Env} {r : Nat} {env : Env} {nm : Nm} {sc : Sc} {loc loc2 : Loc} {own own1 own' : Addr → Option Addr} {σ σ1 : Hp} {h h0 h1 h2 h' : Heap} {t : Nat} {X Y : Addr → Prop} {M : Model}
variable {α β : Type} {P : α → Loc → Hp → Heap → Prop} {v : α} {s s' : Shared}
theorem loop_err (hfr : A.frames = some (env :: outer)) {E : MV → Loc → Hp → Prop} {e : Value} (p : SPst cx (env :: outer) env sc own h (ExQ E) e s') :
    notedBy M A env (fun x s' => cameBackBy M A env (SPst cx (env :: outer) env sc own h (ExQ E)) x s') e s' := by
  obtain ⟨h', t', own', σ', loc', rfl, I, x, k, R, a, C, l, rfl, hs, q⟩ := p
  unfold notedBy
  refine note_sound hfr I hs fun own2 h2 I2 x2 k2 tr => ?_
  unfold cameBackBy
  refine back_sound I2 hs tr fun h3 I3 k3 => ?_
  have R2 := R.keep x2 k2 (I.tk0 k2)
  have R3 := R2.keep (.refl ..) k3 (I2.tk0 k3)
  exact ⟨h3, t', own2, σ', loc', rfl, I3, x.trans k x2, (k.trans x k2.wide).trans (x.trans k x2) k3.wide, R3, a, C, l, rfl, hs, q⟩
theorem load_loc {R : Value → Shared → Prop} {E : Value → Shared → Prop} (S : EStat env nm) (W : ERel cx env sc loc own h) {x : Str} {i : Nat} {mv : MV} (hs : sc.lookup x = some i) (hk : nm.lookup x = some .local ∨ nm.lookup x = some .cell)
    (hl : loc[i]? = some (some mv)) (k : ∀ v, VRel T.sym h mv v → R v (cx.mk' h t)) : wpAny M A (loadName env x) R E (cx.mk' h t) := by
  rw [← S.kindOf] at hk
  rcases hk with hk | hk
  · obtain ⟨m, ns, l⟩ := W.ns
    obtain ⟨v, h4, h5⟩ := l x i mv hs hl hk
    exact wpAny_loadName_local S.kind hk ns h4 (k v h5)
  · obtain ⟨c, o, vo, c1, c2, c3, c4, c5, c6, c8⟩ := W.cells x i hs (.inl hk)
    obtain ⟨v, rfl, h5⟩ := c8 mv hl
    exact wpAny_loadName_cell S.kind hk c1 ⟨o, c2, c3⟩ (k v h5)
set_option tactic.hygienic true in
theorem inplace_sound (I : Inv cx fs own σ h) {op : Operator} (ho : augOk op = true) {ma mb : MV} (hi : match ma, mb with | .int _, .int _ => True | _, _ => False) {a b : Value} (ra : VRel T.sym h ma a) (rb : VRel T.sym h mb b) {Q : MV → Hp → Prop} {E : Value → Shared → Prop}
    (q : binP op ma mb σ Q) : wpAny (model cx.prog cx.w) A (inplaceOp op a b) (Pst cx fs X own h (VQ (T := T) Q)) E (cx.mk' h t) := by
  cases ma <;> cases mb <;> first | exact hi.elim | skip
  · rename_i i j
    obtain ⟨t1, rfl⟩ := ra.int_inv
    obtain ⟨t2, rfl⟩ := rb.int_inv
    unfold augOk at ho
    simp only [Bool.or_eq_true, beq_iff_eq] at ho
    rcases ho with ((rfl | rfl) | rfl) | rfl
    · exact PyProof.Rows.iadd_int (val_here I (.mk_int _ _) q)
    · exact PyProof.Rows.isub_int (val_here I (.mk_int _ _) q)
    · exact PyProof.Rows.ixor_int (val_here I (.mk_int _ _) q)
    · exact PyProof.Rows.irshift_int q.1 (val_here I (.mk_int _ _) q.2)
theorem ssound_aug {tm : MT} {op : Operator} {e : ME} (se : ∀ e, SndE cx CS e) : SndS cx CS (.aug tm op e) := fun nm sc st c A outer r env loc own σ h t Q E H q => by
  replace c := iS_aug c; obtain ⟨tg, o, v, pos, rfl, c⟩ := c
  · skip
    simp only [Bool.and_eq_true, beq_iff_eq] at c
    obtain ⟨⟨⟨⟨rfl, c1⟩, c2⟩, c3⟩, c4⟩ := c
    cases tm with
    | nm i =>
      replace c3 := iT_nm c3; obtain ⟨x, p, rfl, c3⟩ := c3
      simp only [Bool.and_eq_true, Bool.or_eq_true, beq_iff_eq] at c3
      obtain ⟨old, hl, q⟩ := locP_inv q
      refine wpAny_AugAssign_Name (load_loc H.stat H.rel c3.1 c3.2 hl fun ov ro => ?_)
      refine estep H (se e nm sc v c2 A _ r env loc own σ h t _ _ H q) fun u own1 σ1 h1 t1 H1 x1 k tk p => ?_
      obtain ⟨m, rm, hi, p⟩ := p
      refine wpAny_seq (inplace_sound (X := noX) H1.inv c1 hi (ro.tk tk) rm p) (fun _ _ e => e) fun w own2 σ2 h2 t2 I2 x2 k2 p2 => ?_
      obtain ⟨mn, rn, p2⟩ := p2
      have H2 := H1.go I2 x2 k2
      refine store_sound H.stat H2.inv H2.rel c3.1 c3.2 rn fun h' t' I' R' Hd tk' => ?_
      refine SPst.up x1 k.wide (SPst.up x2 k2.wide ?_)
      exact ⟨h', t', own2, σ2, _, rfl, I', .refl .., (Keep.refl ..).hid Hd (fun a z => .inl (wrX_frame (fun y hy => by simp at hy; subst hy; exact ⟨_, c3.1⟩) z)), R', (setP_inv p2).2⟩
    | attr o' n =>
      replace c3 := iT_attr c3; obtain ⟨oe, a, p, rfl, c3⟩ := c3
      simp only [Bool.and_eq_true, beq_iff_eq] at c3
      refine wpAny_AugAssign_AttributeAny ?_
      refine estep H (se o' nm sc oe c3.2 A _ r env loc own σ h t _ _ H q) fun ov own1 σ1 h1 t1 H1 x1 k tk p => ?_
      obtain ⟨om, ro, p⟩ := p
      refine attr_sound H1.inv c3.1 ro p fun old oldv t1' rold q => ?_
      refine wpAny_mono (estep (E := E) (R := fun v s₃ => wpAny (model cx.prog cx.w) A (inplaceOp _ oldv v) (fun new s₄ => wpAny (model cx.prog cx.w) A (setAttr ov a new) (fun _ => (SPst cx (env :: outer) env sc own h (FlowQ (T := T) Q)) .next) (SPst cx (env :: outer) env sc own h (ExQ E)) s₄) (SPst cx (env :: outer) env sc own h (ExQ E)) s₃)
        H1 (se e nm sc v c2 A _ r env loc own1 σ1 h1 t1' _ _ H1 q) fun u own2 σ2 h2 t2 H2 x2 k2 tk2 p2 => ?_) (fun _ _ z => z) fun _ _ z => z.up x1 k.wide
      obtain ⟨m, rm, hi, p2⟩ := p2
      refine wpAny_seq (inplace_sound (X := noX) H2.inv c1 hi (rold.tk tk2) rm p2) (fun _ _ e => e) fun w own3 σ3 h3 t3 I3 x3 k3 p3 => ?_
      obtain ⟨mn, rn, p3⟩ := p3
      have H3 := H2.go I3 x3 k3
      refine wpAny_seq (setattr_sound (X := noX) H3.inv c3.1 ((ro.tk tk2).tk (H2.inv.tk0 k3)) rn p3) (fun _ _ e => e) fun _ own4 σ4 h4 t4 I4 x4 k4 p4 => ?_
      exact SPst.up x1 k.wide (SPst.up x2 k2.wide (SPst.up x3 k3.wide (SPst.up x4 k4.wide (SPst.here I4 (H3.go I4 x4 k4).rel p4))))
    | item o i => exact (Bool.false_ne_true c4).elim
    | tup is => exact (Bool.false_ne_true c4).elim
theorem ERel.but (R : ERel cx env sc loc own h) {a : Addr} (hl : a ≠ env.locals) (ho : ∀ o, h.get? a = some o → ∀ v, o.data ≠ .cell v) (hk : ∀ b o, b ≠ a → h.get? b = some o → h'.get? b = some o) (tk : TK h h') : ERel cx env sc loc own h' := by
  obtain ⟨⟨m, ns, l⟩, oL, bL, cells, inj, scInj⟩ := R
  refine ⟨⟨m, ?_, fun x i mv h1 h2 h3 => ?_⟩, oL, bL, fun x i h1 h2 => ?_, inj, scInj⟩
  · obtain ⟨o, es, ep, e, d, r⟩ := ns
    exact ⟨o, es, ep, hk _ o (Ne.symm hl) e, d, r⟩
  · obtain ⟨v, h4, h5⟩ := l x i mv h1 h2 h3
    exact ⟨v, h4, h5.tk tk⟩
  · obtain ⟨c, o, vo, c1, c2, c3, c4, c5, c6, c8⟩ := cells x i h1 h2
    refine ⟨c, o, vo, c1, hk c o (fun z => by rw [z] at c2; exact ho o c2 _ c3) c2, c3, c4, c5, c6, fun mv hm => ?_⟩
    obtain ⟨v, h4, h5⟩ := c8 mv hm
    exact ⟨v, h4, h5.tk tk⟩
theorem assignOne {tg : Expr} {v : Value} (hs : ∀ e p, tg ≠ .Starred e p) : assignAll v ((assignEach [tg] env).map (·.2)) = assign tg env v := by
  cases tg <;> first | rfl | exact absurd rfl (hs _ _)
theorem chkT_star {tm : MT} {tg : Expr} (c : chkT cx.K T.sym nm sc tm tg = true) : ∀ e p, tg ≠ .Starred e p := fun e p z => by
  subst z; cases tm <;> exact Bool.false_ne_true c
theorem compA_inv {tg v : Expr} {nm : Nm} (c : compA nm tg v = true) : ∃ y p el gens scope vpos, tg = .Name y p ∧ v = .ListComp el gens scope vpos ∧ nm.lookup y = some .local ∧ (p.line == vpos.line) = true ∧ (!(scope.names.any fun (n, k) => n == y && (k == .local || k == .cell))) = true := by
  obtain ⟨⟨y, p, rfl⟩, c⟩ := tgE 5 c
  obtain ⟨⟨el, gs, s, q, rfl⟩, c⟩ := tgE 20 c
  obtain ⟨c1, c⟩ := Bool.and_eq_true_iff.mp c
  obtain ⟨c2, c3⟩ := Bool.and_eq_true_iff.mp c
  exact ⟨y, p, el, gs, s, q, rfl, rfl, beq_iff_eq.mp c1, c2, c3⟩
theorem swapped_no {K : Frag} {sy : List Str} {nm : Nm} {sc : Sc} {tm : MT} {tg v : Expr} (c : chkT K sy nm sc tm tg = true) (d : (!Nat.beq (tagE tg) 16 || !isTupD v) = true) : swappedStores [tg] v env = pure none := by
  cases tm with
  | nm i => obtain ⟨⟨y, p, rfl⟩, c⟩ := tgE 5 c; rfl
  | attr m n => obtain ⟨⟨y, x, p, rfl⟩, c⟩ := tgE 6 c; rfl
  | item m n => obtain ⟨⟨y, x, p, rfl⟩, c⟩ := tgE 7 c; rfl
  | tup is =>
    obtain ⟨⟨y, x, p, rfl⟩, c⟩ := tgE 16 c
    clear c
    cases v <;> first | rfl | exact (Bool.false_ne_true d).elim
set_option tactic.hygienic true in
theorem ssound_asgC {i : Nat} {m : ME} (se : ∀ e, SndE cx CS e) (sT : ∀ e, SndT cx CS e) {y : Str} {p : Pos} {el : Expr} {gens : List Comprehension} {scope : Scope} {vpos pos : Pos} {Q : Out → Loc → Hp → Prop} {E : MV → Loc → Hp → Prop}
    (H : Here cx A (env :: outer) r env nm sc loc own σ h) (q : ewp T CS r m loc σ (fun v σ1 => setP loc i v fun l => Q .next l σ1) (fun x σ1 => E x loc σ1)) (c1 : chkE cx.K T.sym nm sc m (.ListComp el gens scope vpos) = true)
    (c2 : sc.lookup y = some i ∧ (nm.lookup y = some .local ∨ nm.lookup y = some .cell)) (d1 : nm.lookup y = some .local) (d2 : (p.line == vpos.line) = true) (d3 : (!(scope.names.any fun (n, k) => n == y && (k == .local || k == .cell))) = true) :
    wpAny (model cx.prog cx.w) A (exec (.Assign [.Name y p] (.ListComp el gens scope vpos) pos) env) (SPst cx (env :: outer) env sc own h (FlowQ (T := T) Q)) (SPst cx (env :: outer) env sc own h (ExQ E)) (cx.mk' h t) := by
  have hsw : swapsWith (.ListComp el gens scope vpos) (some (.Name y p)) pos.line env = pure true := by
    have e1 : (env.blockKind == ScopeKind.function) = true := by unfold Env.blockKind; rw [H.stat.kind]; rfl
    have e2 : (env.kindOf y == some NameKind.local) = true := by rw [H.stat.kindOf, d1]; rfl
    have e3 : (p.line == (Expr.ListComp el gens scope vpos).pos.line) = true := d2
    show (pure (env.blockKind == .function && env.kindOf y == some .local && p.line == (Expr.ListComp el gens scope vpos).pos.line && !(scope.names.any fun (n, k) => n == y && (k == .local || k == .cell))) : Sem Bool) = pure true
    rw [e1, e2, e3, d3]; rfl
  rw [exec_Assign_Name_used _ _ _ _ hsw]
  refine wpAny_bind (wpAny_standAt (wpAny_bind ?_))
  obtain ⟨elt, ti, one, k, e1, e2, conds, rfl⟩ := iE_lc c1
  obtain ⟨el', target, iter, ifs, scope', vpos', tn, heq, ht, c1⟩ := iE_comp c1
  cases heq
  simp only [Bool.and_eq_true, beq_iff_eq, Bool.not_eq_true'] at c1
  obtain ⟨⟨⟨⟨⟨f2, f3⟩, f4⟩, f5⟩, f6⟩, f7⟩ := c1
  show wpAny _ A (do let _ ← comprehension (.ListComp _ [⟨target, iter, ifs, 0⟩] _ _) _ env _ (newList []) false (eval iter env) (some (assign (.Name y p) env))) _ _ _
  refine wpAny_bind ?_
  refine wpAny_mono (comp_core (se elt) (se e1) (fun c _ => sT c) H ht f2 f3 f4 f5 f6 (srcOk_of f7) q (Q' := fun _ s' => SPst cx (env :: outer) env sc own h (FlowQ (T := T) Q) .next s') fun D C s hC ce => ?_) (fun _ _ z => wpAny_pure (wpAny_pure z)) fun _ _ z => err_of H z
  obtain ⟨own', σ', h', t', mm, rfl, I, x, k', ns, oC, bC, _, q⟩ := ce
  have H1 := H.go I x k'
  show wpAny _ A (assign (.Name y p) env (.ref D)) _ _ _
  have nf : ¬ frameAddr (env :: outer) C := notFrame_new H.inv hC
  refine wpAny_assign_Name (store_sound H.stat H1.inv H1.rel c2.1 c2.2 (.mk_ref D) fun h2 t2 I2 R2 Hd tk2 => ?_)
  have CL : C ≠ env.locals := fun z => by
    obtain ⟨_, ⟨o, es, ep, e, _⟩, _⟩ := H.rel.ns
    have e' : h.get? C = some o := by rw [z]; exact e
    rw [hC] at e'; cases e'
  have nw : ¬ wrX env [y] C := fun z => by
    rcases z with z | ⟨x', hx, _, z⟩
    · exact CL z
    · simp only [List.mem_cons, List.not_mem_nil, or_false] at hx
      subst hx
      rw [H.stat.kindOf, d1] at z; cases z
  obtain ⟨oo, es, ep, e, d, rr⟩ := ns
  have eC := Hd.same _ _ nw e
  refine ⟨mm, ⟨oo, es, ep, eC, d, rr⟩, fun h3 sb => ?_⟩
  have hk3 : ∀ b o, b ≠ C → h2.get? b = some o → h3.get? b = some o := fun b o hb e => sb.extBut b o hb e
  obtain ⟨I3, tk3⟩ := I2.buts (X := fun b => b = C) (h' := h3) (fun a x => by
    subst x
    exact ⟨oC, bC, fun z => absurd z nf, fun ys n e' => by rw [eC] at e'; cases e'; cases d⟩) hk3
  have R3 := R2.but CL (fun o' e' v' z => by rw [eC] at e'; cases e'; rw [d] at z; cases z) hk3 tk3
  exact ⟨h3, t2, own', σ', _, rfl, I3, x, ((k'.wide (X := frameX env sc)).hid Hd (fun a z => .inl (wrX_frame (fun y' hy => by simp at hy; subst hy; exact ⟨_, c2.1⟩) z))).buts (Y := fun b => b = C) hk3 fun a z => .inr (z ▸ hC), R3, (setP_inv q).2⟩
theorem ssound_asg {tm : MT} {m : ME} (se : ∀ e, SndE cx CS e) (sT : ∀ e, SndT cx CS e) : SndS cx CS (.asg tm m) := fun nm sc st c A outer r env loc own σ h t Q E H q => by
  replace c := iS_asg c; obtain ⟨tg, v, pos, rfl, c⟩ := c
  obtain ⟨ca, c4⟩ := Bool.and_eq_true_iff.mp c
  obtain ⟨cb, c3⟩ := Bool.and_eq_true_iff.mp ca
  obtain ⟨c1, c2⟩ := Bool.and_eq_true_iff.mp cb
  clear c ca cb
  cases hc : isComp v with
  | true =>
    rw [hc] at c3
    obtain ⟨y, p, el, gens, scope, vpos, rfl, rfl, d1, d2, d3⟩ := compA_inv c3
    cases tm with
    | nm i =>
      obtain ⟨c5, c6⟩ := Bool.and_eq_true_iff.mp (show (sc.lookup y == some i && (nm.lookup y == some .local || nm.lookup y == some .cell)) = true from c2)
      exact ssound_asgC se sT H q c1 ⟨beq_iff_eq.mp c5, (Bool.or_eq_true_iff.mp c6).imp beq_iff_eq.mp beq_iff_eq.mp⟩ d1 d2 d3
    | _ => exact (Bool.false_ne_true c2).elim
  | false =>
    refine wpAny_Assign_stores ?_ (swaps_no hc _ _) (swapped_no c2 c4)
    refine estep H (se m nm sc v c1 A _ r env loc own σ h t _ _ H q) fun u own1 σ1 h1 t1 H1 x k tk p => ?_
    obtain ⟨mv, rv, p⟩ := p
    rw [assignOne (chkT_star c2)]
    exact wpAny_mono (asg_sound se c2 H1 rv p) (fun _ _ z => (z.up x k.wide).flow) fun _ _ z => z.up x k.wide
end
end Mine
end
section
open PySem PySem.W PyProof.Rows PySem.Builtin.ObjectAttr
set_option maxRecDepth 20000
namespace Mine
section
variable {T : Tab} {cx : Cx T} {CS : CSpec} {A : Around} {fs outer : List Env} {r : Nat} {env : Env} {nm : Nm} {sc : Sc} {loc loc2 : Loc} {own own1 own' : Addr → Option Addr} {σ σ1 : Hp} {h h0 h1 h2 h' : Heap} {t : Nat} {X Y : Addr → Prop} {M : Model}
variable {α β : Type} {P : α → Loc → Hp → Heap → Prop} {v : α} {s s' : Shared}
theorem ssound_whl {m : ME} {b : List MS} (sT : SndT cx CS m) (sb : SndSs cx CS b) : SndS cx CS (.whl m b) := fun nm sc st c A outer r env loc own σ h t Q E H q => by
  replace c := iS_whl c; obtain ⟨e, y, pos, rfl, c⟩ := c
  · skip
    simp only [Bool.and_eq_true] at c
    obtain ⟨J, ⟨n0, j0⟩, turn⟩ := q
    have hfr := H.around.frames
    refine wpAny_While (codeAny_whileLoop (fun n s => ∃ loc' own' σ' h' t', s = cx.mk' h' t' ∧ Inv cx (env :: outer) own' σ' h' ∧ OwnExt own own' h ∧ Keep (env :: outer) own (frameX env sc) h h' ∧ ERel cx env sc loc' own' h' ∧ J n loc' σ') ?_ n0
      ⟨loc, own, σ, h, t, rfl, H.inv, .refl .., .refl .., H.rel, j0⟩)
    rintro n s ⟨loc', own1, σ1, h1, t1, rfl, I1, x1, k1, R1, j⟩
    have H1 : Here cx A (env :: outer) r env nm sc loc' own1 σ1 h1 := ⟨H.around, H.stat, I1, R1⟩
    refine wpAny_seq (sT nm sc e c.1 A _ r env loc' own1 σ1 h1 t1 _ _ H1 (turn n loc' σ1 j)) (fun e' s' z => loop_err hfr ((err_of H1 z).up x1 k1)) fun b own2 σ2 h2 t2 I2 x2 k2 p => ?_
    have H2 := H1.go I2 x2 k2
    cases b with
    | true =>
      simp only [if_true]
      refine wpAny_mono (sb nm sc y c.2 A outer r env loc' own2 σ2 h2 t2 _ E H2 p) (fun f s3 p3 => ?_) fun e' s' z => loop_err hfr ((z.up x2 k2.wide).up x1 k1)
      have p3 := (p3.up x2 k2.wide).up x1 k1
      obtain ⟨h', t', own', σ', loc3, rfl, I, x, k, R, q⟩ := p3
      cases f with
      | next => obtain ⟨m', hm, q⟩ := q; exact ⟨m', hm, loc3, own', σ', h', t', rfl, I, x, k, R, q⟩
      | cont => obtain ⟨m', hm, q⟩ := q; exact ⟨m', hm, loc3, own', σ', h', t', rfl, I, x, k, R, q⟩
      | brk => exact ⟨h', t', own', σ', loc3, rfl, I, x, k, R, q⟩
      | ret v => exact ⟨h', t', own', σ', loc3, rfl, I, x, k, R, q⟩
    | false =>
      have p : Q .next loc' σ2 := p
      simp only [Bool.false_eq_true, if_false]
      exact wpAny_execs_nil (SPst.up x1 k1 (SPst.up x2 k2.wide (SPst.here H2.inv H2.rel p)))
theorem srcB_ok {k : SrcK} {e1 e2 : ME} {iter : Expr} (c : srcB cx.K T.sym nm sc k e1 e2 iter = true) : SrcOk cx.K T.sym nm sc k e1 e2 iter := srcOk_of c
structure FLoop (cx : Cx T) (env : Env) (outer : List Env) (sc : Sc) (own0 : Addr → Option Addr) (h0 : Heap) (kk : ItK) (It : Addr) (xs rest : List MV) (loc : Loc) (own : Addr → Option Addr) (σ : Hp) (h : Heap) : Prop where
  inv : Inv cx (env :: outer) own σ h
  ext : OwnExt own0 own h0
  keep : Keep (env :: outer) own0 (frameX env sc) h0 h
  ownI : own It = none
  at_ : ItAt (T := T) kk It xs rest h
  rel : ERel cx env sc loc own h
theorem notX_odd (R : ERel cx env sc loc own h) {a : Addr} (ho : Odd h a) (e : ∃ o, h.get? a = some o) : ¬ frameX env sc a := fun z => by
  obtain ⟨o, e⟩ := e
  rcases z with rfl | ⟨x, i, h1, h2, h3⟩
  · obtain ⟨m, ⟨o', es, ep, e', d, _⟩, _⟩ := R.ns
    exact (ho o' e').1 _ _ d
  · obtain ⟨c, o', vo, c1, c2, c3, _⟩ := R.cells x i h1 (.inl h3)
    rw [h2] at c1; cases c1
    exact (ho o' c2).2 _ c3
theorem asg_bind {tm : MT} {tg : Expr} (c : forT nm sc tm tg = true) {m : MV} {r : Nat} {K : Loc → Hp → Prop} {E : MV → Hp → Prop} (q : asgP T CS r tm m loc σ K E) :
    ∃ tn ti one, targetNames tg = some (tn, one) ∧ TgtsOk nm sc tn ti ∧ bindP ti one m loc fun loc' => K loc' σ := by
  cases tm with
  | nm i =>
    obtain ⟨⟨y, p, rfl⟩, c⟩ := tgE 5 c
    exact ⟨[y], [i], true, rfl, tgtsB_ok c, fun j hj => by obtain rfl := List.mem_singleton.mp hj; exact (setP_inv q).1, (setP_inv q).2⟩
  | tup is =>
    obtain ⟨tn, ht, c⟩ := names_inv c
    obtain ⟨q1, q2⟩ := q
    refine ⟨tn, is, false, ht, tgtsB_ok c, ?_⟩
    cases m with
    | tup xs => exact manyP_inv q2
    | _ => exact q2.elim
  | _ => exact (Bool.false_ne_true c).elim
theorem ssound_for {tm : MT} {k : SrcK} {e1 e2 : ME} {b : List MS} (s1 : SndE cx CS e1) (sb : SndSs cx CS b) : SndS cx CS (.for tm k e1 e2 b) := fun nm sc st c A outer r env loc own σ h t Q E H q => by
  replace c := iS_for c; obtain ⟨tg, iter, y, pos, rfl, c⟩ := c
  · skip
    simp only [Bool.and_eq_true, Bool.not_eq_true'] at c
    obtain ⟨⟨⟨c1, c2⟩, c3⟩, c4⟩ := c
    obtain ⟨hr, q⟩ := q
    have hfr := H.around.frames
    have hh := H.around.hd hr
    refine wpAny_For ?_ (folded_not_set c2 env)
    refine wpAny_mono (wpAny_mono (src_sound (E := fun x σ1 => E x loc σ1) (F := fun σ2 xs st => _) s1 (srcB_ok c1) H q (R := fun it s₂ => codeAny (model cx.prog cx.w) A (.forLoop tg it y [] env) (fun r s' => match r with | .ok f => SPst cx (env :: outer) env sc own h (FlowQ (T := T) Q) f s' | .error e => cameBackBy (model cx.prog cx.w) A env (SPst cx (env :: outer) env sc own h (ExQ E)) e s') s₂)
      fun It kk xs st own2 σ2 h2 t2 Rd hst F => ?_) (fun v s z => wpAny_mono z (fun _ _ z => z) fun _ _ z => err_of H z) fun _ _ z => z) (fun _ _ z => z) fun _ _ z => err_of H z
    obtain ⟨J, j0, hJ, turn, fin⟩ := F
    refine codeAny_forLoop_any (fun n s => ∃ rest loc' own' σ' h' t', n = rest.length ∧ s = cx.mk' h' t' ∧ FLoop cx env outer sc own h kk It xs rest loc' own' σ' h' ∧ J rest loc' σ') ?_ xs.length
      ⟨xs, loc, own2, σ2, h2, t2, rfl, rfl, ⟨Rd.inv, Rd.ext, Rd.keep.wide, Rd.ownI, Rd.at_, H.rel.keep Rd.ext Rd.keep (H.inv.tk0 Rd.keep)⟩, j0⟩
    rintro n s ⟨rest, loc', own1, σ1, h1, t1, rfl, rfl, L, j⟩
    obtain ⟨oI, nt, _⟩ := L.at_.odd
    have buts : ∀ {h2 : Heap}, (∀ b o, b ≠ It → h1.get? b = some o → h2.get? b = some o) → Inv cx (env :: outer) own1 σ1 h2 ∧ TK h1 h2 ∧ Keep (env :: outer) own (frameX env sc) h h2 ∧ ERel cx env sc loc' own1 h2 := fun {h2} hk => by
      obtain ⟨I2, tk⟩ := L.inv.buts (X := fun b => b = It) (fun a x => by subst x; exact ⟨L.ownI, Rd.baseI, fun z => absurd z Rd.fr, nt⟩) hk
      exact ⟨I2, tk, L.keep.buts (Y := fun b => b = It) hk fun a x => .inr (x ▸ Rd.new), L.rel.odd oI hk tk⟩
    refine next_sound hh L.inv L.at_ (hst _ (hJ _ _ _ j)) (fun e h2 t2 hk => ?_) fun x rest' v h2 t2 e rv at2 hk => ?_
    · subst e
      obtain ⟨I2, tk, k2, R2⟩ := buts hk
      exact wpAny_execs_nil ⟨h2, t2, own1, σ1, loc', rfl, I2, L.ext, k2, R2, fin _ _ j⟩
    · subst e
      obtain ⟨I2, tk, k2, R2⟩ := buts hk
      refine go_sound at2 ?_
      obtain ⟨tn, ti, one, ht, tok, bp⟩ := asg_bind c4 (turn _ _ _ _ j)
      refine bind_sound hh H.stat I2 R2 ht tok (rv.tk tk) bp fun loc3 h3 t3 q I3 R3 H3 tk3 => ?_
      have wf : ∀ a, wrX env tn a → frameX env sc a := fun a z => wrX_frame tok.scs z
      obtain ⟨oI2, _, eI2⟩ := at2.odd
      have L3 : FLoop cx env outer sc own h kk It xs rest' loc3 own1 σ1 h3 :=
        ⟨I3, L.ext, k2.hid H3 fun a z => .inl (wf a z), L.ownI, at2.keep tk3 fun o e => H3.same _ _ (fun z => notX_odd R2 oI2 eI2 (wf _ z)) e, R3⟩
      have Hb : Here cx A (env :: outer) r env nm sc loc3 own1 σ1 h3 := ⟨H.around, H.stat, I3, R3⟩
      refine wpAny_mono (sb nm sc y c3 A outer r env loc3 own1 σ1 h3 t3 _ E Hb q) (fun f s4 p4 => ?_) fun e' s' z => loop_err hfr (z.up L3.ext L3.keep)
      obtain ⟨h4, t4, own4, σ4, loc4, rfl, I4, x4, k4, R4, q4⟩ := p4
      have L4 : FLoop cx env outer sc own h kk It xs rest' loc4 own4 σ4 h4 := by
        obtain ⟨oI3, _, eI3⟩ := L3.at_.odd
        have nx := notX_odd R3 oI3 eI3
        obtain ⟨oo, eo⟩ := eI3
        have tk4 := I3.tk k4 fun a ys n xa e => by
          rcases xa with rfl | ⟨x, i, z1, z2, z3⟩
          · obtain ⟨m, ⟨o', es, ep, e', d, _⟩, _⟩ := R3.ns
            have e'' : h3.get? env.locals = some o' := e'
            rw [e] at e''; cases e''; cases d
          · obtain ⟨c, o', vo, c1, c2, c3, _⟩ := R3.cells x i z1 (.inl z3)
            rw [z2] at c1; cases c1
            rw [e] at c2; cases c2; cases c3
        refine ⟨I4, L3.ext.trans L3.keep x4, L3.keep.trans L3.ext k4, x4.old eo L3.ownI, L3.at_.keep tk4 fun o e => ?_, R4⟩
        rcases k4.same It o e L3.ownI nx with z | ⟨z, _⟩
        · exact z
        · exact absurd z Rd.fr
      cases f with
      | next => exact ⟨rest'.length, by simp, rest', loc4, own4, σ4, h4, t4, rfl, rfl, L4, q4⟩
      | cont => exact ⟨rest'.length, by simp, rest', loc4, own4, σ4, h4, t4, rfl, rfl, L4, q4⟩
      | brk => exact ⟨h4, t4, own4, σ4, loc4, rfl, I4, L4.ext, L4.keep, R4, q4⟩
      | ret v => exact ⟨h4, t4, own4, σ4, loc4, rfl, I4, L4.ext, L4.keep, R4, q4⟩
end
end Mine
end
section
open PySem PySem.W PyProof.Rows PySem.Builtin.ObjectAttr
set_option maxRecDepth 20000
namespace Mine
section
variable {T : Tab} {cx : Cx T} {CS : CSpec} {A : Around} {fs outer : List Env} {r : Nat} {env : Env} {nm : Nm} {sc : Sc} {loc loc2 : Loc} {own own1 own' : Addr → Option Addr} {σ σ1 : Hp} {h h0 h1 h2 h' : Heap} {t : Nat} {X Y : Addr → Prop} {M : Model}
variable {α β : Type} {P : α → Loc → Hp → Heap → Prop} {v : α} {s s' : Shared}
theorem typeOf_exc {a C : Addr} {od : Option Addr} {vs : Array Value} {sl : Array (Option Value)} (e : h.get? a = some ⟨.ref C, od, .fields vs, sl⟩) : Looks M h (typeOf (.ref a)) (.ref C) :=
  (Looks.ld (part := none) e).andThen .now
set_option tactic.hygienic true in
theorem kit_of {C : Addr} {K : Frag} (hx : exmOne K (.ref C) (.ref C) = some true) : subIn K (.ref C) (.type "BaseException") = some true ∧ kitCls K (.ref C) (.ref C) = some true := by
  unfold exmOne at hx
  split at hx
  · rename_i hb
    exact ⟨beq_iff_eq.mp hb, hx⟩
  · cases hx
theorem ssound_rse {m : ME} (s1 : SndE cx CS m) : SndS cx CS (.rse m) := fun nm sc st c A outer r env loc own σ h t Q E H q => by
  replace c := iS_rse c; obtain ⟨v, pos, rfl, c⟩ := c
  · skip
    obtain ⟨hr, q⟩ := q
    have hh := H.around.hd hr
    show wpAny _ A (do standAt pos; raiseStmt env (some (do let v ← eval v env; standAt pos; pure v)) none) _ _ _
    refine wpAny_bind (wpAny_standAt ?_)
    unfold raiseStmt
    dsimp only
    refine wpAny_bind (wpAny_bind ?_)
    refine estep H (s1 nm sc v c A _ r env loc own σ h t _ _ H q) fun u own1 σ1 h1 t1 H1 x1 k1 tk p => wpAny_bind (wpAny_standAt (wpAny_pure ?_))
    obtain ⟨mv, rv, a, C, l, rfl, hs, hsub, q⟩ := p
    have := rv.ref_inv; subst this
    obtain ⟨oa, od, vs, sl, e, tr, rr⟩ := H1.inv.objs a _ hs
    obtain ⟨hb, hk⟩ := kit_of (cx.subs _ _ _ hsub)
    have LT := typeOf_exc (M := model cx.prog cx.w) e
    have LS : Looks (model cx.prog cx.w) h1 (isSubtype (.ref C) (.type "BaseException")) true := looks_subIn H1.inv.K hb
    have LK := (kit_cls (M := model cx.prog cx.w) H1.inv.K hk).1
    have hnt : ∀ {Q' : Bool → Shared → Prop} {E' : Value → Shared → Prop}, Q' false (cx.mk' h1 t1) → wpAny (model cx.prog cx.w) A (isType (.ref a)) Q' E' (cx.mk' h1 t1) := by
      intro Q' E' hq
      simp only [isType, loadHead]
      exact wpAny_bind (wpAny_loadPart (s := cx.mk' h1 t1) e (wpAny_pure hq))
    refine wpAny_bind (wpAny_pure ?_)
    dsimp only
    refine wpAny_bind (wpAny_holding ?_)
    unfold excFromValue isExcClass
    refine wpAny_bind (wpAny_bind (hnt ?_))
    simp only [Bool.false_eq_true, if_false]
    refine wpAny_pure ?_
    simp only [Bool.false_eq_true, if_false]
    refine wpAny_bind ?_
    show wpAny _ A (do isSubtype (← typeOf (.ref a)) (.type "BaseException")) _ _ _
    refine wpAny_bind (LT.at (LS.at ?_))
    simp only [if_true]
    refine wpAny_pure ?_
    refine wpAny_bind (hnt ?_)
    simp only [Bool.false_eq_true, if_false]
    unfold raisedInstance
    refine wpAny_bind (wpAny_bind (LT.at (wpAny_bind (LK.at ?_))))
    rw [if_pos (by decide)]
    refine wpAny_pure ?_
    refine wpAny_bind (flight_sound H1.inv hs fun h2 I2 k2 => ?_)
    refine wpAny_raiseNew_none hh ?_
    exact SPst.up x1 k1.wide (SPst.up (.refl ..) k2.wide (SPst.here I2 (H1.rel.keep (.refl ..) k2 (H1.inv.tk0 k2)) ⟨a, C, l, rfl, hs, q⟩))
theorem tkX (I : Inv cx fs own σ h) (R : ERel cx env sc loc own h) (k : Keep fs own (frameX env sc) h h') : TK h h' :=
  I.tk k fun a ys n xa e => by
    rcases xa with rfl | ⟨x, i, z1, z2, z3⟩
    · obtain ⟨m, ⟨o', es, ep, e', d, _⟩, _⟩ := R.ns
      have e'' : h.get? env.locals = some o' := e'
      rw [e] at e''; cases e''; cases d
    · obtain ⟨c, o', vo, c1, c2, c3, _⟩ := R.cells x i z1 (.inl z3)
      rw [z2] at c1; cases c1
      rw [e] at c2; cases c2; cases c3
theorem notX_own (R : ERel cx env sc loc own h) {a y : Addr} (e : own a = some y) : ¬ frameX env sc a := fun z => by
  rcases z with rfl | ⟨x, i, h1, h2, h3⟩
  · rw [R.ownL] at e; cases e
  · obtain ⟨c, o', vo, c1, c2, c3, c4, _⟩ := R.cells x i h1 (.inl h3)
    rw [h2] at c1; cases c1
    rw [c4] at e; cases e
theorem ACtx.marked {h : Option Value} (a : ACtx A fs r) : ACtx (A.mark h) fs 0 := by
  refine ⟨fun z => absurd rfl z, ?_, a.frames, ?_⟩
  · have := a.depth; show A.depth + 3 * 0 ≤ 900; lia
  · have := a.units; show A.units + 12 * 0 ≤ 9800; lia
theorem no_err {P' : Prop} {e : Value} (z : SPst cx fs env sc own h (ExQ fun _ _ _ => False) e s') : P' := by
  obtain ⟨_, _, _, _, _, _, _, _, _, _, _, _, _, _, _, z⟩ := z; exact z.elim
theorem pass_sound {γ : Type} (I : Inv cx fs own σ h) {a C : Addr} {l : List (Nat × MV)} (hs : σ a = some (.exc C l)) (tr : TrOn own h a) {what : String} {Q : γ → Shared → Prop} {E' : Value → Shared → Prop}
    (k : ∀ h', Inv cx fs own σ h' → Keep fs own noX h h' → E' (.ref a) (cx.mk' h' t)) : wpAny M A (PySem.passOn what (.ref a) env : Sem γ) Q E' (cx.mk' h t) := by
  obtain ⟨oa, od, vs, sl, e, tr', r⟩ := I.objs a _ hs
  rcases tr' with ⟨_, tn⟩ | ⟨tb, ot, ts, e1, e2, e3, e4, e5, e6, e7⟩
  · obtain ⟨tb, o, z1, z2, z3⟩ := tr
    exact absurd z3 (tn tb o z1 z2)
  · unfold PySem.passOn
    refine wpAny_bind (wpAny_field (s := cx.mk' h t) e rfl e1 ?_)
    rw [if_neg (show ¬ (Value.ref tb == Value.none) = true from by simp)]
    first
      | exact wpAny_bind (wpAny_pure (wpAny_bind (flight_sound I hs fun h' I' k' => wpAny_throw (k h' I' k'))))
      | exact wpAny_bind (flight_sound I hs fun h' I' k' => wpAny_throw (k h' I' k'))
theorem ssound_tryF {b f : List MS} (sb : SndSs cx CS b) (sf : SndSs cx CS f) : SndS cx CS (.tryF b f) := fun nm sc st c A outer r env loc own σ h t Q E H q => by
  replace c := iS_tryF c; obtain ⟨y, f0, fr, pos, rfl, c⟩ := c
  · skip
    simp only [Bool.and_eq_true] at c
    have hfr := H.around.frames
    have norm : ∀ (g : Flow) (loc1 : Loc) (own1 : Addr → Option Addr) (σ1 : Hp) (h1 : Heap) (t1 : Nat), Inv cx (env :: outer) own1 σ1 h1 → OwnExt own own1 h → Keep (env :: outer) own (frameX env sc) h h1 → ERel cx env sc loc1 own1 h1 →
        FlowQ (T := T) (fun o loc1 σ1 => swps T CS r f loc1 σ1 (fun o' loc2 σ2 => match o' with | .next => Q o loc2 σ2 | _ => False) fun _ _ _ => False) g loc1 σ1 h1 →
        wpAny (model cx.prog cx.w) A (execs (f0 :: fr) env) (fun g' s' => match g' with | .next => SPst cx (env :: outer) env sc own h (FlowQ (T := T) Q) g s' | g' => SPst cx (env :: outer) env sc own h (FlowQ (T := T) Q) g' s')
          (notedBy (model cx.prog cx.w) A env (cameBackBy (model cx.prog cx.w) A env (SPst cx (env :: outer) env sc own h (ExQ E)))) (cx.mk' h1 t1) := fun g loc1 own1 σ1 h1 t1 I1 x1 k1 R1 p => by
      have fin : ∀ (o : Out), (∀ loc2 σ2 (h2 : Heap), TK h1 h2 → Q o loc2 σ2 → FlowQ (T := T) Q g loc2 σ2 h2) → swps T CS r f loc1 σ1 (fun o' loc2 σ2 => match o' with | .next => Q o loc2 σ2 | _ => False) (fun _ _ _ => False) →
          wpAny (model cx.prog cx.w) A (execs (f0 :: fr) env) (fun g' s' => match g' with | .next => SPst cx (env :: outer) env sc own h (FlowQ (T := T) Q) g s' | g' => SPst cx (env :: outer) env sc own h (FlowQ (T := T) Q) g' s')
          (notedBy (model cx.prog cx.w) A env (cameBackBy (model cx.prog cx.w) A env (SPst cx (env :: outer) env sc own h (ExQ E)))) (cx.mk' h1 t1) := fun o hq p => by
        refine wpAny_mono (sf nm sc (f0 :: fr) c.2 A outer r env loc1 own1 σ1 h1 t1 _ _ ⟨H.around, H.stat, I1, R1⟩ p) (fun g' s2 p2 => ?_) fun e' s' z => no_err z
        obtain ⟨h2, t2, own2, σ2, loc2, rfl, I2, x2, k2, R2, p2⟩ := p2
        cases g' with
        | next => exact SPst.up x1 k1 ⟨h2, t2, own2, σ2, loc2, rfl, I2, x2, k2, R2, hq _ _ _ (tkX I1 R1 k2) p2⟩
        | cont => exact p2.elim
        | brk => exact p2.elim
        | ret v => obtain ⟨_, _, z⟩ := p2; exact z.elim
      cases g with
      | next => exact fin .next (fun _ _ _ _ z => z) p
      | cont => exact fin .cont (fun _ _ _ _ z => z) p
      | brk => exact fin .brk (fun _ _ _ _ z => z) p
      | ret v =>
        obtain ⟨m, rm, p⟩ := p
        exact fin (.ret m) (fun _ _ _ tk z => ⟨m, rm.tk tk, z⟩) p
    refine wpAny_Try_finally ?_
    refine wpAny_mono (sb nm sc y c.1 A outer r env loc own σ h t _ _ H q) (fun g s1 p => ?_) fun e s1 p => ?_
    · obtain ⟨h1, t1, own1, σ1, loc1, rfl, I1, x1, k1, R1, p⟩ := p
      cases g with
      | next => exact wpAny_execs_nil (norm .next loc1 own1 σ1 h1 t1 I1 x1 k1 R1 p)
      | cont => exact norm .cont loc1 own1 σ1 h1 t1 I1 x1 k1 R1 p
      | brk => exact norm .brk loc1 own1 σ1 h1 t1 I1 x1 k1 R1 p
      | ret v => exact norm (.ret v) loc1 own1 σ1 h1 t1 I1 x1 k1 R1 p
    · obtain ⟨h1, t1, own1, σ1, loc1, rfl, I1, x1, k1, R1, a, C, l, rfl, hs, p⟩ := p
      refine note_sound hfr I1 hs fun own2 h2 I2 x2 k2 tr2 => ?_
      refine ⟨ref_ne_byPass a, note_sound hfr I2 hs fun own3 h3 I3 x3 k3 tr3 => ?_⟩
      refine flight_sound I3 hs fun h4 I4 k4 => ?_
      have R2 := R1.keep x2 k2 (I1.tk0 k2)
      have R3 := R2.keep x3 k3 (I2.tk0 k3)
      have R4 := R3.keep (.refl ..) k4 (I3.tk0 k4)
      have tr4 : TrOn own3 h4 a := tr3.keep (.refl ..) k4 fun _ _ z => z
      refine wpAny_mono (sf nm sc (f0 :: fr) c.2 (A.mark (some (.ref a))) outer 0 env loc1 own3 σ1 h4 t1 _ _ ⟨H.around.marked, H.stat, I4, R4⟩ p) (fun g' s5 p5 => ?_) fun e' s' z => no_err z
      obtain ⟨h5, t5, own5, σ5, loc5, rfl, I5, x5, k5, R5, p5⟩ := p5
      cases g' with
      | next =>
        obtain ⟨⟨a', C', l', hz, hs5⟩, p5⟩ := p5
        cases hz
        have tr5 : TrOn own5 h5 a := tr4.keep x5 k5 fun b eb => notX_own R4 eb
        refine pass_sound I5 hs5 tr5 fun h6 I6 k6 => ?_
        have R6 := R5.keep (.refl ..) k6 (I5.tk0 k6)
        exact SPst.up x1 k1 (SPst.up x2 k2.wide (SPst.up x3 k3.wide (SPst.up (.refl ..) k4.wide (SPst.up x5 k5 (SPst.up (.refl ..) k6.wide (SPst.here I6 R6 ⟨a, C', l', rfl, hs5, p5⟩))))))
      | cont => exact p5.elim
      | brk => exact p5.elim
      | ret v => obtain ⟨_, _, z⟩ := p5; exact z.elim
theorem goes_sound (S : EStat env nm) (I : Inv cx fs own σ h) (R : ERel cx env sc loc own h) {n : Str} {i : Nat} {pos : Pos} {Q : Unit → Shared → Prop} {E : Value → Shared → Prop} (hi : sc.lookup n = some i) (hk : nm.lookup n = some .local)
    (k : ∀ h' t', Inv cx fs own σ h' → ERel cx env sc (loc.set i none) own h' → Keep fs own (frameX env sc) h h' → TK h h' → Q () (cx.mk' h' t')) : wpAny M A (do bindName env n .none; unbindBehindTheSuite env n pos) Q E (cx.mk' h t) := by
  obtain ⟨⟨ns, hns, hl⟩, oL, bL, cells, inj, scInj⟩ := R
  rw [← S.kindOf] at hk
  refine wpAny_nameGoes_keeps hk hns (kind_fn S.kind _) fun h' v hn' sb => ?_
  have ht := sb.extBut
  obtain ⟨o0, es0, n0, e0, d0, _⟩ := hns
  have old : h.get? env.locals = some o0 := e0
  obtain ⟨o1, es1, n1, e1, d1, _⟩ := id hn'
  obtain ⟨I', tk⟩ := I.buts (X := fun b => b = env.locals) (h' := h') (fun a x => by
    subst x
    refine ⟨oL, bL, fun _ => ⟨o1, es1, n1, e1, d1⟩, fun ys n e => ?_⟩
    rw [old] at e; cases e; cases d0) fun b o hb e => ht b o hb e
  refine k h' _ I' ⟨⟨_, hn', fun y j mv g1 g2 g3 => ?_⟩, oL, bL, fun y j g1 g2 => ?_, inj, scInj⟩ ((Keep.refl ..).buts (Y := fun b => b = env.locals) (fun b o hb e => ht b o hb e) fun a x => .inl ⟨.inl x, fun o e => by subst x; exact ⟨o1, e1⟩⟩) tk
  · rcases set_get g2 with ⟨_, z⟩ | ⟨z', z⟩
    · cases z
    · by_cases q : y = n
      · subst q; rw [hi] at g1; cases g1; exact absurd rfl z'
      · obtain ⟨u, u1, u2⟩ := hl y j mv g1 z g3
        exact ⟨u, by simp only [if_neg q]; exact u1, u2.tk tk⟩
  · obtain ⟨c, o, vo, c1, c2, c3, c4, c5, c6, c8⟩ := cells y j g1 g2
    refine ⟨c, o, vo, c1, ht c o c6 c2, c3, c4, c5, c6, fun mv hm => ?_⟩
    rcases set_get hm with ⟨_, z⟩ | ⟨_, z⟩
    · cases z
    · obtain ⟨u, u1, u2⟩ := c8 mv z
      exact ⟨u, u1, u2.tk tk⟩
theorem exm_tupN {K : Frag} {c1 c2 cls : Value} {tp e : Addr} {n : Nat} {b1 b2 : Bool} (X : K.In h) (LT : Looks M h (typeOf (.ref e)) cls) (hp : h.get? tp = some (tupObj [c1, c2] n)) (x1 : exmOne K cls c1 = some b1) (x2 : exmOne K cls c2 = some b2) :
    Looks M h (excMatches (.ref e) (.ref tp)) (b1 || b2) := by
  intro A Q E s k₀ q
  obtain ⟨hh, g, d, tk, os⟩ := s
  have k : ∀ b o, h.get? b = some o → hh.get? b = some o := k₀
  have LT0 : Looks M h (isInstance (.ref tp) (.type "tuple")) true := ((Looks.ld hp).andThen .now).andThen (Looks.of_pure isSubtype_tuple_tuple)
  obtain ⟨e1, S1⟩ := exm_cls (M := M) X x1
  have e1 := e1.keeps k
  have S1 := S1.keeps k
  obtain ⟨e2, S2⟩ := exm_cls (M := M) X x2
  have e2 := e2.keeps k
  have S2 := S2.keeps k
  have LT := LT.keeps k
  have LT0 := LT0.keeps k
  have hp' := k _ _ hp
  unfold excMatches
  refine wpAny_bind (LT0.at ?_)
  dsimp only
  rw [if_pos rfl]
  first
    | refine wpAny_bind (wpAny_seqItems hp' rfl ?_)
    | refine wpAny_bind (wpAny_bind (wpAny_seqItems hp' rfl (wpAny_pure ?_)))
  dsimp only [Option.getD_some, Option.getD]
  cases b1 <;> cases b2 <;> ((repeat (first | simp only [List.forIn_cons, List.forIn_nil, Bool.not_true, Bool.false_eq_true, if_false, if_true] | lk)); exact q)
set_option tactic.hygienic true in
theorem hit_sound (I : Inv cx fs own σ h) {a C : Addr} {l : List (Nat × MV)} (hs : σ a = some (.exc C l)) {tv : MV} {v : Value} (rv : VRel T.sym h tv v) (hit : excHit T tv C = true) {Q : Bool → Shared → Prop} {E' : Value → Shared → Prop}
    (q : Q true (cx.mk' h t)) : wpAny M A (excMatches (.ref a) v) Q E' (cx.mk' h t) := by
  obtain ⟨oa, od, vs, sl, e, _⟩ := I.objs a _ hs
  have LT := typeOf_exc (M := M) e
  have so : ∀ {m : MV} {b : Bool}, subO T C m = some b → ∃ D, m = .con (.ref D) ∧ T.subs.lookup (C, D) = some b := fun {m b} z => by
    cases m with
    | con v => cases v with
      | ref D => exact ⟨D, rfl, z⟩
      | _ => exact ns z
    | _ => exact ns z
  cases tv with
  | con v =>
    obtain ⟨D, e, z⟩ := so (beq_iff_eq.mp hit)
    obtain ⟨rfl, _⟩ := rv.con_inv
    cases e
    exact (exm_one I.K LT (cx.subs _ _ _ z)).at q
  | tup xs =>
    match xs, hit with
    | [], hit => exact (Bool.false_ne_true hit).elim
    | [_], hit => exact (Bool.false_ne_true hit).elim
    | x1 :: x2 :: x3, hit =>
      obtain ⟨e3, hit2⟩ := Bool.and_eq_true_iff.mp hit
      obtain ⟨b, b', z1, z2, hit3⟩ := orO_inv hit2
      obtain ⟨D, rfl, w1⟩ := so z1
      obtain ⟨D', rfl, w2⟩ := so z2
      obtain ⟨tp, ys, n, rfl, g, r⟩ := rv.tup_inv
      obtain ⟨y1, r1, rfl, p1, r⟩ := r.cons_inv
      obtain ⟨y2, r2, rfl, p2, r⟩ := r.cons_inv
      obtain rfl := List.isEmpty_iff.mp e3
      rw [r.nil_inv] at g
      obtain ⟨rfl, _⟩ := p1.con_inv
      obtain ⟨rfl, _⟩ := p2.con_inv
      have := exm_tupN (M := M) I.K LT g (cx.subs _ _ _ w1) (cx.subs _ _ _ w2)
      rw [hit3] at this
      exact this.at q
  | _ => exact (Bool.false_ne_true hit).elim
theorem ssound_tryX {b : List MS} {ty : ME} {i : Nat} {hb : List MS} (sb : SndSs cx CS b) (st' : SndE cx CS ty) (sh : SndSs cx CS hb) : SndS cx CS (.tryX b ty i hb) := fun nm sc st c A outer r env loc own σ h t Q E H q => by
  replace c := iS_tryX c; obtain ⟨y, tt, n, hb0, hbr, pos, tpos, rfl, c⟩ := c
  · skip
    simp only [beq_iff_eq] at c
    obtain ⟨c1, c2, c3, c4, c5⟩ := c
    have hfr := H.around.frames
    refine wpAny_Try_except ?_
    refine wpAny_mono (sb nm sc y c1 A outer r env loc own σ h t _ _ H q) (fun g s1 p => ?_) fun e s1 p => ?_
    · cases g with
      | next => exact wpAny_execs_nil p
      | cont => exact p
      | brk => exact p
      | ret v => exact p
    · obtain ⟨h1, t1, own1, σ1, loc1, rfl, I1, x1, k1, R1, a, C, l, rfl, hs, p⟩ := p
      refine note_sound hfr I1 hs fun own2 h2 I2 x2 k2 tr2 => ?_
      refine flight_sound I2 hs fun h3 I3 k3 => ?_
      have R2 := R1.keep x2 k2 (I1.tk0 k2)
      have R3 := R2.keep (.refl ..) k3 (I2.tk0 k3)
      have H3 : Here cx (A.mark (some (.ref a))) (env :: outer) 0 env nm sc loc1 own2 σ1 h3 := ⟨H.around.marked, H.stat, I3, R3⟩
      refine wpAny_handleBy_cons (codeAny_handlers_test ?_) (by intro q; cases q)
      refine wpAny_seq (st' nm sc tt c2 (A.mark (some (.ref a))) _ 0 env loc1 own2 σ1 h3 t1 _ _ H3 p) (fun e' s' z => ?_) fun v own4 σ4 h4 t4 I4 x4 k4 p4 => ?_
      · obtain ⟨_, _, _, _, _, _, _, _, _, _, _, _, _, z⟩ := z; exact z.elim
      obtain ⟨tv, rv, a', C', l', hz, hs4, hit, hi, p4⟩ := p4
      cases hz
      refine hit_sound I4 hs4 rv hit ?_
      simp only [if_true]
      refine codeAny_handlers_suite_as (flight_sound I4 hs4 fun h5 I5 k5 => ?_)
      have H4 := H3.go I4 x4 k4
      have R5 := H4.rel.keep (.refl ..) k5 (I4.tk0 k5)
      refine store_sound H.stat I5 R5 c4 (.inl c5) (.mk_ref a) fun h6 t6 I6 R6 Hd tk6 => ?_
      have k6 : Keep (env :: outer) own4 (frameX env sc) h5 h6 := (Keep.refl ..).hid Hd (fun a z => .inl (wrX_frame (fun y' hy => by simp at hy; subst hy; exact ⟨_, c4⟩) z))
      refine wpAny_mono (sh nm sc (hb0 :: hbr) c3 (A.mark (some (.ref a))) outer 0 env _ own4 σ4 h6 t6 _ _ ⟨H.around.marked, H.stat, I6, R6⟩ p4) (fun g s7 p7 => ?_) fun e' s' z => no_err z
      obtain ⟨h7, t7, own7, σ7, loc7, rfl, I7, x7, k7, R7, p7⟩ := p7
      refine goes_sound H.stat I7 R7 c4 c5 fun h8 t8 I8 R8 k8 tk8 => ?_
      refine SPst.up x1 k1 (SPst.up x2 k2.wide (SPst.up (.refl ..) k3.wide (SPst.up x4 k4.wide (SPst.up (.refl ..) k5.wide (SPst.up (.refl ..) k6 (SPst.up x7 k7 (SPst.up (.refl ..) k8 (SPst.here I8 R8 ?_))))))))
      cases g with
      | next => exact p7
      | cont => exact p7
      | brk => exact p7
      | ret v => obtain ⟨m, rm, p7⟩ := p7; exact ⟨m, rm.tk tk8, p7⟩
theorem sndT' (hCS : CSok cx CS) (m : ME) : SndT cx CS m := sndT hCS m
mutual
theorem sndS (hCS : CSok cx CS) : ∀ s : MS, SndS cx CS s
  | .expr e => ssound_expr (sndE hCS e)
  | .cont => ssound_cont
  | .ret e => ssound_ret (sndE hCS e)
  | .asg _ _ => ssound_asg (sndE hCS) (sndT hCS)
  | .aug _ _ _ => ssound_aug (sndE hCS)
  | .ite c a b => ssound_ite (sndT hCS c) (sndSs hCS a) (sndSs hCS b)
  | .whl c b => ssound_whl (sndT hCS c) (sndSs hCS b)
  | .for _ _ e1 _ b => ssound_for (sndE hCS e1) (sndSs hCS b)
  | .rse e => ssound_rse (sndE hCS e)
  | .tryF b f => ssound_tryF (sndSs hCS b) (sndSs hCS f)
  | .tryX b ty _ h => ssound_tryX (sndSs hCS b) (sndE hCS ty) (sndSs hCS h)
theorem sndSs (hCS : CSok cx CS) : ∀ ss : List MS, SndSs cx CS ss
  | [] => ssound_nil
  | s :: ss => ssound_cons (sndS hCS s) (sndSs hCS ss)
end
end
end Mine
end
section
open PySem PySem.W PyProof.Rows PySem.Builtin.ObjectAttr
set_option maxRecDepth 20000
namespace Mine
noncomputable def fd0 : FuncData := { name := "", qualname := "", params := ⟨[], [], none, [], [], none, []⟩, body := .stmts [], scope := default, globals := 0, closure := [], defaults := .none, kwdefaults := .none, doc := .none, pyModule := .none, annotations := none, code := .none, closureTuple := .none, builtins := 0 }
noncomputable def fdD (d : Data) : FuncData := match d with
  | .func fd => fd
  | _ => fd0
noncomputable def isFd (d : Data) : Bool := match d with
  | .func _ => true
  | _ => false
noncomputable def fdO (o : Option Obj) : FuncData := match o with
  | some o => fdD o.data
  | none => fd0
noncomputable def fdOf (K : Frag) (f : Addr) : FuncData := fdO (K.lookup f)
noncomputable def isFnAt (K : Frag) (f : Addr) : Bool := (K.lookup f).any fun o => isFd o.data
set_option tactic.hygienic true in
theorem fdOf_get {K : Frag} {f : Addr} (c : isFnAt K f = true) : ∃ oc od osl, K.lookup f = some ⟨oc, od, .func (fdOf K f), osl⟩ := by
  obtain ⟨⟨oc, od, d, osl⟩, e, c⟩ := any_some c
  cases d with
  | func fd =>
    have z : fdOf K f = fd := congrArg fdO e
    exact ⟨oc, od, osl, by rw [z]; exact e⟩
  | _ => exact (Bool.false_ne_true c).elim
noncomputable def stmtsB (b : FuncBody) (p : List Stmt → Bool) : Bool := match b with
  | .stmts l => p l
  | _ => false
noncomputable def scOk (ps : List Str) (sc : Sc) (names : Nm) : Bool :=
  decide ps.Nodup && sc.take ps.length == ps.zip (List.range ps.length) && (sc.drop ps.length).all (fun x => decide (ps.length ≤ x.2)) && decide (sc.map (·.2)).Nodup &&
  ps.all (fun x => names.lookup x == some .local || (names.lookup x == some .cell && ((cellsFrom 0 names []).lookup x).isSome)) &&
  sc.all (fun x => names.lookup x.1 != some .free && (names.lookup x.1 != some .cell || ((cellsFrom 0 names []).lookup x.1).isSome))
noncomputable def fnChk (K : Frag) (sy : List Str) (f : Addr) (ps : List Str) (sc : Sc) (ms : List MS) : Bool :=
  isFnAt K f && (fdOf K f).globals == mainGlobals && (fdOf K f).builtins == builtinsNs && (fdOf K f).closure.isEmpty && codeIn K (fdOf K f).code (fdOf K f).qualname && (fdOf K f).scope.kind == .function &&
  !(fdOf K f).scope.isCoroutine && !(fdOf K f).scope.isGenerator && scOk ps sc (fdOf K f).scope.names && stmtsB (fdOf K f).body (chkSs K sy (fdOf K f).scope.names sc ms)
section
variable {T : Tab} {cx : Cx T} {CS : CSpec} {A : Around} {fs outer : List Env} {r : Nat} {env : Env} {nm : Nm} {sc : Sc} {loc loc2 : Loc} {own own1 own' : Addr → Option Addr} {σ σ1 : Hp} {h h0 h1 h2 h' : Heap} {t : Nat} {X Y : Addr → Prop} {M : Model}
set_option tactic.hygienic true in
theorem isSome_names : ∀ (names : Nm) (n m : Nat) (a b : List (Str × Addr)) (x : Str), a.map (·.1) = b.map (·.1) → ((cellsFrom n names a).lookup x).isSome = true → ∃ c, (cellsFrom m names b).lookup x = some c
  | [], n, m, a, b, x, e, c => by
    obtain ⟨y, hy⟩ := Option.isSome_iff_exists.mp c
    have hm := lookup_mem hy
    have : x ∈ b.map (·.1) := by rw [← e]; exact List.mem_map.mpr ⟨_, hm, rfl⟩
    obtain ⟨p, hp, rfl⟩ := List.mem_map.mp this
    exact mem_lookup (y := p.2) hp
  | (k, kd) :: r, n, m, a, b, x, e, c => by
    unfold cellsFrom at c ⊢
    split
    · rename_i q
      rw [if_pos q] at c
      exact isSome_names r _ _ _ _ x (by simp [e]) c
    · rename_i q
      rw [if_neg q] at c
      exact isSome_names r _ _ _ _ x e c
theorem bindL_get (kindOf : Str → Option NameKind) : ∀ (binds : List (Str × Value)) (m : Str → Option Value) (x : Str) (u : Value), (binds.map (·.1)).Nodup → kindOf x = some .local → ((x, u) ∈ binds → bindL kindOf binds m x = some u) ∧ (x ∉ binds.map (·.1) → bindL kindOf binds m x = m x)
  | [], m, x, u, _, _ => ⟨fun h => (by cases h), fun _ => rfl⟩
  | (n, v) :: r, m, x, u, nd, hk => by
    rw [List.map_cons, List.nodup_cons] at nd
    obtain ⟨h1, h2⟩ := bindL_get kindOf r (if kindOf n = some .local then fun y => if y = n then some v else m y else m) x u nd.2 hk
    refine ⟨fun hm => ?_, fun hn => ?_⟩
    · unfold bindL
      rcases List.mem_cons.mp hm with z | z
      · cases z
        rw [h2 nd.1, if_pos hk, if_pos rfl]
      · exact h1 z
    · unfold bindL
      rw [List.map_cons, List.mem_cons, not_or] at hn
      rw [h2 hn.2]
      by_cases q : kindOf n = some .local
      · rw [if_pos q, if_neg hn.1]
      · rw [if_neg q]
theorem bindC_get (kindOf : Str → Option NameKind) : ∀ (binds : List (Str × Value)) (m : Str → Option Value) (x : Str) (u : Value), (binds.map (·.1)).Nodup → kindOf x ≠ some .local → ((x, u) ∈ binds → bindC kindOf binds m x = some u) ∧ (x ∉ binds.map (·.1) → bindC kindOf binds m x = m x)
  | [], m, x, u, _, _ => ⟨fun h => (by cases h), fun _ => rfl⟩
  | (n, v) :: r, m, x, u, nd, hk => by
    rw [List.map_cons, List.nodup_cons] at nd
    obtain ⟨h1, h2⟩ := bindC_get kindOf r (if kindOf n = some .local then m else fun y => if y = n then some v else m y) x u nd.2 hk
    refine ⟨fun hm => ?_, fun hn => ?_⟩
    · unfold bindC
      rcases List.mem_cons.mp hm with z | z
      · cases z
        rw [h2 nd.1, if_neg hk, if_pos rfl]
      · exact h1 z
    · unfold bindC
      rw [List.map_cons, List.mem_cons, not_or] at hn
      rw [h2 hn.2]
      by_cases q : kindOf n = some .local
      · rw [if_pos q]
      · rw [if_neg q, if_neg hn.1]
theorem Inv.dropFrame (I : Inv cx (env :: fs) own σ h) : Inv cx fs own σ h := ⟨I.base, I.ownd, I.ownr, I.objs', fun e he => I.frames e (List.mem_cons_of_mem _ he)⟩
theorem zip_get {ps : List Str} {us : List Value} {i : Nat} {x : Str} {u : Value} (e : ps[i]? = some x) (e' : us[i]? = some u) : (x, u) ∈ ps.zip us := by
  have : (ps.zip us)[i]? = some (x, u) := by rw [List.getElem?_zip_eq_some]; exact ⟨e, e'⟩
  exact List.mem_of_getElem? this
noncomputable def CodeSpec (cx : Cx T) (r : Nat) (f : Value) (args : List MV) (σ : Hp) (Q E : MV → Hp → Prop) : Prop :=
  ∀ (A : Around) (fs : List Env) (own : Addr → Option Addr) (h : Heap) (t : Nat) (vs : List Value), ACtx A fs r → Inv cx fs own σ h → VRels T.sym h args vs →
    codeAny (model cx.prog cx.w) A (.call f ⟨vs, []⟩) (fun r s' => match r with | .ok (.ret v) => Pst cx fs noX own h (VQ (T := T) Q) v s' | .ok _ => False | .error e => Pst cx fs noX own h (EQ E) e s') (cx.mk' h t)
theorem CodeSpec.call {f : Value} {args : List MV} {Q E : MV → Hp → Prop} (c : CodeSpec cx r f args σ Q E) : CallSpec cx r f args σ Q E := fun A fs own h t vs a I rv => wpAny_call (c A fs own h t vs a I rv)
set_option tactic.hygienic true in
theorem fn_intro {f : Addr} {ps : List Str} {sc : Sc} {ms : List MS} (c : fnChk cx.K T.sym f ps sc ms = true) {args margs : List MV} {n : Nat}
    (hb : ∀ h t (vs : List Value), cx.K.In h → VRels T.sym h args vs → ∃ us, us.length = ps.length ∧ VRels T.sym h margs us ∧ BindsTo (cx.mk' h t) (fdOf cx.K f) ⟨vs, []⟩ (ps.zip us)) {Q E : MV → Hp → Prop}
    (q : swps T (CallSpec cx) r ms (margs.map some ++ List.replicate n none) σ (fun o _ σ' => match o with | .ret v => Q v σ' | .next => Q .none σ' | _ => False) (fun x _ σ' => E x σ')) :
    CodeSpec cx (r + 1) (.ref f) args σ Q E := by
  unfold fnChk at c
  simp only [Bool.and_eq_true, beq_iff_eq, Bool.not_eq_true', List.isEmpty_iff] at c
  obtain ⟨⟨⟨⟨⟨⟨⟨⟨⟨c1, c2⟩, c3⟩, c4⟩, c5⟩, c6⟩, c7⟩, c8⟩, c9⟩, c10⟩ := c
  obtain ⟨oc, od, osl, hK⟩ := fdOf_get c1
  generalize hfd : fdOf cx.K f = fd at *
  obtain ⟨body, hbody, c10⟩ : ∃ body, fd.body = .stmts body ∧ chkSs cx.K T.sym fd.scope.names sc ms body = true := by
    clear hb q hfd
    cases z : fd.body with
    | stmts l => rw [z] at c10; exact ⟨l, rfl, c10⟩
    | expr e => rw [z] at c10; exact (Bool.false_ne_true c10).elim
  intro A fs own h t vs ac I rv
  obtain ⟨us, ul, ru, hbind⟩ := hb h t vs I.K rv
  have ml : margs.length = ps.length := by rw [← ul, ru.length]
  unfold scOk at c9
  simp only [Bool.and_eq_true, decide_eq_true_eq, beq_iff_eq, List.all_eq_true, Bool.or_eq_true, bne_iff_ne] at c9
  obtain ⟨⟨⟨⟨⟨d1, d2⟩, d3⟩, d4⟩, d5⟩, d6⟩ := c9
  have keys : (ps.zip us).map (·.1) = ps := by rw [List.map_fst_zip]; lia
  have hdep := ac.depth
  have hun := ac.units
  refine codeAny_call_function (fd := fd) (body := body) (by show A.depth < 1000; lia) (I.K _ _ hK) rfl c7 c8 hbody (codeRec_of I.K c5) (hbind _ _ _ _ ?_)
  rw [c4]
  refine wpAny_newFunctionEnv_cells c6 (fun x hx => ?_) fun env he s' ic => ?_
  · have hx1 : x.1 ∈ ps := by rw [← keys]; exact List.mem_map.mpr ⟨x, hx, rfl⟩
    rcases d5 x.1 hx1 with z | ⟨z1, z2⟩
    · exact .inl z
    · obtain ⟨cc, hc⟩ := isSome_names fd.scope.names 0 ((cx.mk' h t).heap.objs.size + 1) [] [] x.1 rfl z2
      exact .inr ⟨z1, by rw [hc]; rfl⟩
  obtain ⟨h1, t1, rfl, up⟩ := ic.done
  have up : ∀ b o, h.get? b = some o → h1.get? b = some o := up
  refine ⟨(I.top.nolimit).keeps up, codeAny_func ?_⟩
  have eL : env.locals = h.objs.size := by rw [he]; rfl
  have eF : env.frame = some h.objs.size := by rw [he]; rfl
  have eC : env.cells = cellsFrom (h.objs.size + 1) fd.scope.names [] := by rw [he]; rfl
  have eS : env.scope = fd.scope := by rw [he]; rfl
  have S : EStat env fd.scope.names := ⟨by rw [eS], by rw [eS]; exact c6, by rw [he]; exact c2, by rw [he]; exact c3⟩
  obtain ⟨I1, tk1⟩ := I.grow up
  have nL : h.get? h.objs.size = none := get?_size h
  have ns1 := ic.toInCall.ns
  rw [eL] at ns1
  have ns1 : h1.Ns h.objs.size (bindL env.kindOf (ps.zip us) fun _ => none) := ns1
  obtain ⟨oL, esL, epL, gL, dL, _⟩ := id ns1
  have gL : h1.get? h.objs.size = some oL := gL
  have baseNone : ∀ {a : Addr}, h.get? a = none → cx.base.get? a = none := fun {a} e => by
    cases w : cx.base.get? a with
    | none => rfl
    | some o => have := I.base a o w; rw [e] at this; cases this
  have I2 : Inv cx (env :: fs) own σ h1 := ⟨I1.base, I1.ownd, I1.ownr, I1.objs', fun e he' => by
    rcases List.mem_cons.mp he' with rfl | he'
    · exact ⟨_, oL, esL, epL, eF, baseNone nL, (I.fresh nL).2, gL, dL, by rw [S.kind]; decide⟩
    · exact I1.frames e he'⟩
  have cellNew : ∀ x c, env.cells.lookup x = some c → h.get? c = none := fun x c e => Heap.get?_none_of_le (Nat.le_of_lt (by rw [← eL]; exact ic.above x c (lookup_mem e)))
  have us1 := ru.tk tk1
  have scGet : ∀ x i, sc.lookup x = some i → i < ps.length → ps[i]? = some x := fun x i e hi => by
    have hm := lookup_mem e
    rw [← List.take_append_drop ps.length sc] at hm
    rcases List.mem_append.mp hm with hm | hm
    · rw [d2] at hm
      obtain ⟨j, hj⟩ := List.getElem?_of_mem hm
      rw [List.getElem?_zip_eq_some] at hj
      obtain ⟨z1, z2⟩ := hj
      have : j = i := by
        have hl : j < ps.length := (List.getElem?_eq_some_iff.mp z1).1
        rw [List.getElem?_range hl] at z2
        exact Option.some.inj z2
      rw [← this]; exact z1
    · have := d3 _ hm
      lia
  have locGet : ∀ (i : Nat) mv, (margs.map some ++ List.replicate n none)[i]? = some (some mv) → margs[i]? = some mv ∧ i < ps.length := fun i mv e => by
    by_cases hi : i < (margs.map some).length
    · rw [List.getElem?_append_left hi, List.getElem?_map] at e
      simp only [List.length_map] at hi
      rw [Option.map_eq_some_iff] at e
      obtain ⟨y, hy, hz⟩ := e
      cases hz
      exact ⟨hy, by lia⟩
    · rw [List.getElem?_append_right (by lia), List.getElem?_replicate] at e
      split at e <;> cases e
  have kindOf : ∀ x, env.kindOf x = fd.scope.names.lookup x := S.kindOf
  have nd : ((ps.zip us).map (·.1)).Nodup := by rw [keys]; exact d1
  have R1 : ERel cx env sc (margs.map some ++ List.replicate n none) own h1 := by
    refine ⟨⟨_, by rw [eL]; exact ns1, fun x i mv g1 g2 g3 => ?_⟩, by rw [eL]; exact (I.fresh nL).2, by rw [eL]; exact baseNone nL, fun x i g1 g2 => ?_, fun x y c g1 g2 => ?_, fun x y i g1 g2 => snd_inj d4 g1 g2⟩
    · obtain ⟨z1, z2⟩ := locGet i mv g2
      obtain ⟨u, hu, ruu⟩ := us1.get z1
      exact ⟨u, (bindL_get env.kindOf (ps.zip us) (fun _ => none) x u nd g3).1 (zip_get (scGet x i g1 z2) hu), ruu⟩
    · rw [kindOf] at g2
      have g2' : fd.scope.names.lookup x = some .cell := by
        rcases g2 with g2 | g2
        · exact g2
        · exact absurd g2 (d6 (x, i) (lookup_mem g1)).1
      have hs := (d6 (x, i) (lookup_mem g1)).2.resolve_left (fun z => z g2')
      obtain ⟨cc, hc⟩ := isSome_names fd.scope.names 0 (h.objs.size + 1) [] [] x rfl hs
      rw [← eC] at hc
      obtain ⟨oc', goc, doc⟩ := ic.cell x cc hc
      have gn := cellNew x cc hc
      refine ⟨cc, oc', _, hc, goc, doc, (I.fresh gn).2, baseNone gn, fun z => ?_, fun mv hm => ?_⟩
      · have := ic.above x cc (lookup_mem hc)
        rw [z] at this
        exact Nat.lt_irrefl _ this
      · obtain ⟨z1, z2⟩ := locGet i mv hm
        obtain ⟨u, hu, ruu⟩ := us1.get z1
        exact ⟨u, (bindC_get env.kindOf (ps.zip us) (fun _ => none) x u nd (by rw [kindOf, g2']; decide)).1 (zip_get (scGet x i g1 z2) hu), ruu⟩
    · exact name_of_addr ic.apart (lookup_mem g1) (lookup_mem g2)
  have ac1 : ACtx (A.deeper env) (env :: fs) r := by
    refine ⟨fun z => ac.hd (by lia), ?_, ?_, ?_⟩
    · show A.depth + 1 + 3 * r ≤ 900; lia
    · show A.frames.map (env :: ·) = some (env :: fs); rw [ac.frames]; rfl
    · show A.units + 3 + 12 * r ≤ 9800; lia
  have nX : ∀ a o, h.get? a = some o → ¬ frameX env sc a := fun a o e z => by
    rcases z with z | ⟨x, i, _, z, _⟩
    · rw [z, eL, nL] at e; cases e
    · rw [cellNew x a z] at e; cases e
  have back : ∀ {α β : Type} {P : β → Loc → Hp → Heap → Prop} {P' : α → Hp → Heap → Prop} {v : α} {w : β} {s' : Shared}, (∀ loc σ h, P w loc σ h → P' v σ h) → SPst cx (env :: fs) env sc own h1 P w s' → Pst cx fs noX own h P' v s' := fun imp p => by
    obtain ⟨h', t', own', σ', loc', e, I', x', k', R', q'⟩ := p
    refine ⟨h', t', own', σ', e, I'.dropFrame, ⟨x'.up, fun a y e => ?_⟩, ⟨fun a o e => k'.live a o (up a o e), fun a o e n _ => ?_, fun a o y e _ g => k'.kls a o y e (nX a o g) (up a o g)⟩, imp _ _ _ q'⟩
    · rcases x'.new a y e with z | ⟨z1, z2⟩
      · exact .inl z
      · refine .inr ⟨z1, ?_⟩
        cases w : h.get? a with
        | none => rfl
        | some o => rw [up a o w] at z2; cases z2
    · rcases k'.same a o (up a o e) n (nX a o e) with z | ⟨⟨ev, hm, hf⟩, sl, z⟩
      · exact .inl z
      · rcases List.mem_cons.mp hm with rfl | hm
        · rw [eF] at hf
          cases hf
          rw [nL] at e; cases e
        · exact .inr ⟨⟨ev, hm, hf⟩, sl, z⟩
  refine wpAny_mono (sndSs (cx := cx) (CS := CallSpec cx) (fun _ _ _ _ _ _ z => z) ms fd.scope.names sc body c10 (A.deeper env) fs r env _ own σ h1 t1 _ _ ⟨ac1, S, I2, R1⟩ q) (fun g s2 p => ?_) fun e s2 p => ?_
  · cases g with
    | next => exact back (v := Value.none) (fun loc σ h z => ⟨.none, .mk_none, z⟩) p
    | cont => obtain ⟨_, _, _, _, _, _, _, _, _, _, z⟩ := p; exact z.elim
    | brk => obtain ⟨_, _, _, _, _, _, _, _, _, _, z⟩ := p; exact z.elim
    | ret v => exact back (v := v) (fun loc σ h z => by obtain ⟨m, r, q⟩ := z; exact ⟨m, r, q⟩) p
  · obtain ⟨h3, t3, own3, σ3, loc3, rfl, I3, x3, k3, R3, a, C, l, rfl, hs, p⟩ := p
    refine wpAny_bind (note_sound ac1.frames I3 hs fun own4 h4 I4 x4 k4 tr4 => ?_)
    refine flight_sound I4 hs fun h5 I5 k5 => ?_
    have R4 := R3.keep x4 k4 (I3.tk0 k4)
    have R5 := R4.keep (.refl ..) k5 (I4.tk0 k5)
    exact back (P := ExQ fun x _ σ' => E x σ') (fun loc σ h z => by obtain ⟨a, C, fs, ea, hs, q⟩ := z; exact ⟨a, C, fs, ea, hs, q⟩) (SPst.up x3 k3 (SPst.up x4 k4.wide (SPst.up (.refl ..) k5.wide (SPst.here I5 R5 ⟨a, C, l, rfl, hs, p⟩))))
end
end Mine
end
section
open PySem PySem.W PyProof.Rows PySem.Builtin.ObjectAttr
set_option maxRecDepth 20000
namespace Mine
section
variable {T : Tab} {cx : Cx T} {CS : CSpec} {A : Around} {fs outer : List Env} {r : Nat} {env : Env} {nm : Nm} {sc : Sc} {loc loc2 : Loc} {own own1 own' : Addr → Option Addr} {σ σ1 : Hp} {h h0 h1 h2 h' : Heap} {t : Nat} {X Y : Addr → Prop} {M : Model}
theorem under_call {c : Addr} {rest : List Value} (ac : ACtx A fs (r + 1)) : ACtx (A.under (.builtin "type.__call__" ⟨.ref c :: rest, []⟩)) fs r := by
  have hd := ac.depth
  have hu := ac.units
  have w : (Code.builtin "type.__call__" ⟨.ref c :: rest, []⟩).weight ≤ 3 := by
    unfold Code.weight
    have e1 : (Code.builtin "type.__call__" ⟨.ref c :: rest, []⟩).frames = 0 := rfl
    have e2 : (Code.builtin "type.__call__" ⟨.ref c :: rest, []⟩).isCaller = false := rfl
    rw [e1, e2]
    split <;> split <;> simp
  have u : (Code.builtin "type.__call__" ⟨.ref c :: rest, []⟩).cUnits ≤ 12 := by
    have : (Code.builtin "type.__call__" ⟨.ref c :: rest, []⟩).cUnits = 1 := rfl
    lia
  refine ⟨fun z => ac.hd (by lia), ?_, ?_, ?_⟩
  · show A.depth + _ + 3 * r ≤ 900; lia
  · rw [show (A.under (.builtin "type.__call__" ⟨.ref c :: rest, []⟩)).frames = A.frames from rfl]
    exact ac.frames
  · show A.units + _ + 12 * r ≤ 9800; lia
theorem Inv.make (I : Inv cx fs own σ h) (C : Addr) : ∃ own', Inv cx fs own' (σ.put (h.objs.size + 1) (.inst C [])) ((h.push emptyDict).push (instObj C h.objs.size)) ∧
    Keep fs own noX h ((h.push emptyDict).push (instObj C h.objs.size)) ∧ OwnExt own own' h := by
  have n1 : h.get? h.objs.size = none := get?_size h
  have n2 : h.get? (h.objs.size + 1) = none := Heap.get?_none_of_le (Nat.le_succ _)
  have up : ∀ b o, h.get? b = some o → ((h.push emptyDict).push (instObj C h.objs.size)).get? b = some o := fun b o e => Heap.get?_push_of_some _ (Heap.get?_push_of_some _ e)
  have gd : ((h.push emptyDict).push (instObj C h.objs.size)).get? h.objs.size = some emptyDict := Heap.get?_push_of_some _ (Heap.get?_push_size h rfl)
  have gx : ((h.push emptyDict).push (instObj C h.objs.size)).get? (h.objs.size + 1) = some (instObj C h.objs.size) := by
    have := Heap.get?_push_size (h.push emptyDict) (o := instObj C h.objs.size) rfl
    rwa [Heap.size_push] at this
  have ow : ∀ b y, ownNew2 own (h.objs.size + 1) h.objs.size b = some y → own b = some y ∨ ((b = h.objs.size + 1 ∨ b = h.objs.size) ∧ y = h.objs.size + 1) := fun b y q => by
    unfold ownNew2 at q
    by_cases z : b = h.objs.size + 1 ∨ b = h.objs.size
    · rw [if_pos z] at q; exact .inr ⟨z, (Option.some.inj q).symm⟩
    · rw [if_neg z] at q; exact .inl q
  have fr1 := (I.fresh n1).2
  have fr2 := (I.fresh n2).2
  have x : OwnExt own (ownNew2 own (h.objs.size + 1) h.objs.size) h := by
    refine ⟨fun b y q => ?_, fun b y q => ?_⟩
    · unfold ownNew2
      by_cases z : b = h.objs.size + 1 ∨ b = h.objs.size
      · rcases z with rfl | rfl
        · rw [fr2] at q; cases q
        · rw [fr1] at q; cases q
      · rw [if_neg z]; exact q
    · rcases ow b y q with z | ⟨z, _⟩
      · exact .inl z
      · rcases z with rfl | rfl
        · exact .inr ⟨fr2, n2⟩
        · exact .inr ⟨fr1, n1⟩
  have none_a : ∀ b, own b ≠ some (h.objs.size + 1) := I.noOwner n2
  have base1 := base_size I
  have base2 : cx.base.get? (h.objs.size + 1) = none := by
    cases w : cx.base.get? (h.objs.size + 1) with
    | none => rfl
    | some o => have := I.base _ o w; rw [n2] at this; cases this
  obtain ⟨I', k⟩ := I.upd (mo := .inst C []) (a := h.objs.size + 1) x (fun b y q => (ow b y q).imp id fun z => z.2) (fun b o e _ => up b o e) (fun b q => by
      rcases ow b _ q with z | ⟨z, _⟩
      · exact absurd z (none_a b)
      · rcases z with rfl | rfl
        · exact ⟨base2, _, gx, refNe C⟩
        · exact ⟨base1, _, gd, dictNe⟩) (fun b o q => absurd q (none_a b)) (by unfold ownNew2; rw [if_pos (.inl rfl)])
    (fun tk => ⟨h.objs.size, [], 0, gx, by unfold ownNew2; rw [if_pos (.inr rfl)], Nat.ne_of_lt (Nat.lt_succ_self _), gd, rfl⟩)
  exact ⟨_, I', k, x⟩
theorem inst_intro {C fI : Addr} (hm : makesIn cx.K C = true) (hi : findIn cx.K (.ref C) "__init__" = some (some (.ref fI))) (hf : typeIn cx.K (.ref fI) = some (.type "function")) {args : List MV} {Q E : MV → Hp → Prop}
    (q : ∀ a, σ a = none → CodeSpec cx r (.ref fI) (.ref a :: args) (σ.put a (.inst C [])) (fun v σ' => v = .none ∧ Q (.ref a) σ') E) : CodeSpec cx (r + 1) (.ref C) args σ Q E := by
  intro A fs own h t vs ac I rv
  obtain ⟨own', I', k, x⟩ := I.make C
  refine make_core (makes_of I.K hm) (looks_findIn I.K hi) (fun self => bind_fn I.K self hf) (.inl rfl) ?_
  have tk := I.tk0 k
  refine codeAny_mono (q (h.objs.size + 1) (I.fresh (Heap.get?_none_of_le (Nat.le_succ _))).1 _ fs own' _ t _ (under_call ac) I' (.cons (.mk_ref _) (rv.tk tk))) fun r s' z => ?_
  rcases r with e | (v | _ | _ | _)
  · exact Pst.up x k z
  · exact z.elim
  · exact z.elim
  · exact z.elim
  · obtain ⟨h', t', own2, σ', e, I2, x2, k2, m, rm, rfl, q'⟩ := z
    exact ⟨rm.none_inv, h', t', own2, σ', e, I2, x.trans k x2, k.trans x k2, .ref _, .mk_ref _, q'⟩
end
end Mine
end
section
open PySem
set_option maxRecDepth 100000
set_option maxHeartbeats 4000000
namespace Mine
section
variable {M : Model} {A : Around} {E : Value → Shared → Prop} {h : Heap} {g : Array GenState} {d : Drawn} {t : Nat} {os : OsState}
variable {nm q : Str} {C N : Addr} {bs bm : List Value} {hdct : Bool} {sn : List Str} {sub : List Value} {ab : Bool} {col : Option Bool} {dd : Option Addr} {k0 k1 k2 k3 k5 : Option Value}
theorem xcheck_new (hB : bm.contains (.type "Exception") = true) {rest : List Value} {Q : Unit → Shared → Prop} (hC : h.get? C = some (excClassObj nm q C N bs bm hdct sn sub ab col dd k0 k1 k2 k3 k5 "Exception.__new__"))
    (hq : Q () ⟨h, g, d, t, os⟩) : wpAny M A (checkBuiltinCall "Exception.__new__" ⟨.ref C :: rest, []⟩) Q E ⟨h, g, d, t, os⟩ := by
  have Fn := F.excBase_Exception
  have hcont : (Value.ref C :: bm).contains (.type "Exception") = true := by rw [List.contains_cons, hB, Bool.or_true]
  have hstar := Fn.noStar
  simp only [checkBuiltinCall, Fn.newKind, Fn.newSplit, Fn.newRow]
  repeat (first | refine wpAny_loadPart_at hC ?_ | (refine wpAny_isSubtype_exc hC ?_; rw [hcont]) | refine wpAny_staticBase_exc hC ?_ | refine wpAny_madeBy_exc hC ?_ | simp only [bne_self_eq_false, Bool.false_eq_true, if_false] | wp_step)
  exact hq
end
section
variable {prog : Program} {w : World} {A : Around} {R : Result → Shared → Prop} {h : Heap} {g : Array GenState} {d : Drawn} {t : Nat} {os : OsState}
variable {nm q : Str} {C N : Addr} {bs bm bmB : List Value} {hdct : Bool} {sn : List Str} {sub : List Value} {ab : Bool} {col : Option Bool} {dd : Option Addr} {k0 k1 k2 k3 k5 : Option Value}
theorem xnew (hB : bm.contains (.type "Exception") = true) (hA' : bm.contains (.type "AttributeError") = false) (hN' : bm.contains (.type "NameError") = false) {rest : List Value} (hC : h.get? C = some (excClassObj nm q C N bs bm hdct sn sub ab col dd k0 k1 k2 k3 k5 "Exception.__new__"))
    (hq : R (.ok (.ret (.ref (h.objs.size + 1)))) ⟨(h.push { cls := .type "tuple", data := .seq rest.toArray }).push
      { cls := .ref C, data := .fields #[.ref h.objs.size, .none, .none, .none, .bool false, .none] }, g, d, t, os⟩) (hrest : rest.length ≤ sizeLine := by size_fits) :
    codeAny (model prog w) A (.builtin "Exception.__new__" ⟨.ref C :: rest, []⟩) R ⟨h, g, d, t, os⟩ := by
  have Fn := F.excBase_Exception
  have hends := Fn.ends
  have hcB : (Value.ref C :: bm).contains (.type "Exception") = true := by rw [List.contains_cons, hB, Bool.or_true]
  have hcA : (Value.ref C :: bm).contains (.type "AttributeError") = false := by rw [List.contains_cons, hA']; rfl
  have hcN : (Value.ref C :: bm).contains (.type "NameError") = false := by rw [List.contains_cons, hN']; rfl
  refine codeAny_builtinAt Fn.entry ?_
  unfold Builtin.«BaseException.__new__»
  refine wpAt_bind ?_
  show wpAt _ _ _ (stack >>= _) _ _ _
  refine wpAt_bind (wpAt_stack fun p below => wpAt_of_wpAny ?_)
  wp_walk
  refine wpAt_of_wpAny ?_
  rw [Fn.owner]
  repeat (first | with_reducible refine wpAny_madeHere_exc Fn.canon hC ?_ | with_reducible refine wpAny_loadPart_at hC ?_ | (with_reducible refine wpAny_isSubtype_exc hC ?_; first | rw [hcB] | rw [hcA] | rw [hcN]) | wp_step)
  show R _ _
  rw [Heap.size_push]
  exact hq
end
end Mine
end
section
open PySem PySem.W PyProof.Rows PySem.Builtin.ObjectAttr
set_option maxRecDepth 100000
set_option maxHeartbeats 4000000
namespace Mine
noncomputable def clsB (d : Data) (p : ClassData → Bool) : Bool := match d with
  | .cls cd => p cd
  | _ => false
noncomputable def excShape (K : Frag) (C : Addr) : Bool := (K.lookup C).any fun o => o.cls == .type "type" && (o.slots.size == 6 && o.slots[4]? == some (some (.builtin "Exception.__new__"))) &&
  clsB o.data fun cd => cd.mro.head? == some (.ref C) && !cd.hasDel && !cd.abstract && cd.mro.tail.contains (.type "Exception") && !cd.mro.tail.contains (.type "AttributeError") && !cd.mro.tail.contains (.type "NameError")
theorem six {α : Type} {l : List α} {x : α} (h : l.length = 6) (e : l[4]? = some x) : ∃ k0 k1 k2 k3 k5, l = [k0, k1, k2, k3, x, k5] := by
  cases l with
  | nil => cases h
  | cons k0 l => cases l with
  | nil => cases h
  | cons k1 l => cases l with
  | nil => cases h
  | cons k2 l => cases l with
  | nil => cases h
  | cons k3 l => cases l with
  | nil => cases h
  | cons k4 l => cases l with
  | nil => cases h
  | cons k5 l => cases l with
  | nil => cases e; exact ⟨_, _, _, _, _, rfl⟩
  | cons _ _ => cases h
inductive ExcSh (K : Frag) (C : Addr) : Prop where
  | mk (nm qn : _) (N : _) (bs bm : _) (hd : _) (sn : _) (sub : _) (ab : _) (col : _) (dd : _) (k0 k1 k2 k3 k5 : _) (e : K.lookup C = some (excClassObj nm qn C N bs bm hd sn sub ab col dd k0 k1 k2 k3 k5 "Exception.__new__"))
      (h1 : bm.contains (.type "Exception") = true) (h2 : bm.contains (.type "AttributeError") = false) (h3 : bm.contains (.type "NameError") = false)
set_option tactic.hygienic true in
theorem excShape_of {K : Frag} {C : Addr} (q : excShape K C = true) : ExcSh K C := by
  obtain ⟨⟨oc, dd, d, sl⟩, ho, q⟩ := any_some q
  obtain ⟨qa, q⟩ := Bool.and_eq_true_iff.mp q
  obtain ⟨q1, qb⟩ := Bool.and_eq_true_iff.mp qa
  obtain ⟨q2, q3⟩ := Bool.and_eq_true_iff.mp qb
  obtain rfl : oc = .type "type" := beq_iff_eq.mp q1
  clear qa qb q1
  obtain ⟨l⟩ := sl
  obtain ⟨k0, k1, k2, k3, k5, rfl⟩ := six (beq_iff_eq.mp q2) ((List.getElem?_toArray ..).symm.trans (beq_iff_eq.mp q3))
  cases d with
  | cls cd =>
    obtain ⟨nm, bs, mro, ns, qn, hd, sn, sub, ab, col, del⟩ := cd
    replace q : (mro.head? == some (.ref C) && !del && !ab && mro.tail.contains (.type "Exception") && !mro.tail.contains (.type "AttributeError") && !mro.tail.contains (.type "NameError")) = true := q
    simp only [Bool.and_eq_true, beq_iff_eq, Bool.not_eq_true'] at q
    obtain ⟨⟨⟨⟨⟨hm, hdel⟩, hab⟩, h1⟩, h2⟩, h3⟩ := q
    cases mro with
    | nil => cases hm
    | cons v bm =>
      cases hm
      subst hdel
      exact ⟨nm, qn, ns, bs, bm, hd, sn, sub, ab, col, dd, k0, k1, k2, k3, k5, ho, h1, h2, h3⟩
  | _ => exact (Bool.false_ne_true q).elim
section
variable {prog : Program} {w : World} {A : Around} {R : Result → Shared → Prop} {h : Heap} {g : Array GenState} {d : Drawn} {t : Nat} {os : OsState}
noncomputable abbrev excObj (C tp : Addr) : Obj := { cls := .ref C, data := .fields #[.ref tp, .none, .none, .none, .bool false, .none] }
theorem exc_core {K : Frag} (X : K.In h) (hs : excShape K C = true) (hcall : specialIn K (.ref C) "__call__" = some (some (.builtin "type.__call__"))) (htyp : instIn K (.ref C) (.type "type") = some true) (hself : subIn K (.ref C) (.ref C) = some true)
    {rest : List Value} {fI : Addr} (hi : findIn K (.ref C) "__init__" = some (some (.ref fI))) (hf : typeIn K (.ref fI) = some (.type "function")) (hrest : rest.length ≤ sizeLine)
    (hq : codeAny (model prog w) (A.under (.builtin "type.__call__" ⟨.ref C :: rest, []⟩)) (.call (.ref fI) ⟨.ref (h.objs.size + 1) :: rest, []⟩) (InitBack (h.objs.size + 1) R)
      ⟨(h.push { cls := .type "tuple", data := .seq rest.toArray }).push (excObj C h.objs.size), g, d, t, os⟩) :
    codeAny (model prog w) A (.call (.ref C) ⟨rest, []⟩) R ⟨h, g, d, t, os⟩ := by
  obtain ⟨nm, qn, N, bs, bm, hd, sn, sub, ab, col, dd, k0, k1, k2, k3, k5, ho, hB, hA', hN'⟩ := excShape_of hs
  have hC := X _ _ ho
  have call : Looks (model prog w) h (specialOf (.ref C) "__call__") (some (.builtin "type.__call__")) := looks_specialIn X hcall
  have typ : Looks (model prog w) h (isInstance (.ref C) (.type "type")) true := looks_instIn X htyp
  have made : Looks (model prog w) h (Bind.madeBy (.ref C)) (some "Exception.__new__") := fun A Q E s k q => by
    obtain ⟨hh, g', d', t', os'⟩ := s
    exact wpAny_madeBy_exc (k _ _ hC) q
  have selfL : Looks (model prog w) h (isSubtype (.ref C) (.ref C)) true := looks_subIn X hself
  refine codeAny_of_tree ?_
  show wpAny _ _ (callAny (.ref C) _) _ _ _
  refine nd_load hC ?_
  show wpAny _ _ (callAny.viaDunder (.ref C) _) _ _ _
  unfold callAny.viaDunder
  refine wpAny_bind (call.at ?_)
  dsimp only
  rw [tc_bind]
  refine wpAny_bind (wpAny_pure (wpAny_bind (wpAny_pure ?_)))
  refine wpAny_pure (a := Fin.again (.call (.builtin "type.__call__") ⟨.ref C :: rest, []⟩)) (And.intro rfl ?_)
  refine codeAny_call_builtin_at (Code.quiet_builtin _ (by decide +kernel)) entry_typeCall (check_slot tc_kind tc_split typ (tc_args _ _ _) ?_)
  unfold Builtin.«type.__call__»
  have hm : Looks (model prog w) h (mroOf (.ref C)) (.ref C :: bm) := ((Looks.ld (part := none) hC).andThen .now).andThen .now
  repeat (first | simp only [List.isEmpty_cons, Bool.false_eq_true, if_false] | with_reducible refine wpAny_call ?_ | lk)
  refine codeAny_call_builtin_code (Code.quiet_builtin _ F.excBase_Exception.quiet) (xcheck_new hB hC ?_)
  refine xnew hB hA' hN' hC ?_ hrest
  have k : ∀ b o, h.get? b = some o → ((h.push { cls := .type "tuple", data := .seq rest.toArray }).push (excObj C h.objs.size)).get? b = some o := fun b o e => Heap.get?_push_of_some _ (Heap.get?_push_of_some _ e)
  have hx : ((h.push { cls := .type "tuple", data := .seq rest.toArray }).push (excObj C h.objs.size)).get? (h.objs.size + 1) = some (excObj C h.objs.size) := by heap_get
  have t1 : Looks (model prog w) ((h.push { cls := .type "tuple", data := .seq rest.toArray }).push (excObj C h.objs.size)) (typeOf (.ref (h.objs.size + 1))) (.ref C) := (Looks.ld hx).andThen .now
  have s1 := selfL.keeps k
  have i1 := (looks_findIn (M := model prog w) X hi).keeps k
  have b1 := (bind_fn (M := model prog w) X (.ref (h.objs.size + 1)) hf).keeps k
  show wpAny _ _ _ _ _ _
  unfold isInstance callSpecial? specialOf
  repeat (first | with_reducible refine wpAny_call ?_ | lk)
  refine codeAny_mono hq fun r s' z => ?_
  rcases r with e | (v | _ | _ | _) <;> first | exact z | exact z.elim | skip
  obtain ⟨rfl, z⟩ := z
  exact wpAny_pure (wpAny_pure z)
end
end Mine
end
section
open PySem PySem.W PyProof.Rows PySem.Builtin.ObjectAttr
set_option maxRecDepth 20000
namespace Mine
section
variable {T : Tab} {cx : Cx T} {CS : CSpec} {A : Around} {fs outer : List Env} {r : Nat} {env : Env} {nm : Nm} {sc : Sc} {loc loc2 : Loc} {own own1 own' : Addr → Option Addr} {σ σ1 : Hp} {h h0 h1 h2 h' : Heap} {t : Nat} {X Y : Addr → Prop} {M : Model}
noncomputable def excChk (K : Frag) (C fI : Addr) : Bool :=
  excShape K C && specialIn K (.ref C) "__call__" == some (some (.builtin "type.__call__")) && instIn K (.ref C) (.type "type") == some true && subIn K (.ref C) (.ref C) == some true &&
  findIn K (.ref C) "__init__" == some (some (.ref fI)) && typeIn K (.ref fI) == some (.type "function")
theorem Inv.makeExc (I : Inv cx fs own σ h) (C : Addr) (rest : List Value) : ∃ own', Inv cx fs own' (σ.put (h.objs.size + 1) (.exc C [])) ((h.push { cls := .type "tuple", data := .seq rest.toArray }).push (excObj C h.objs.size)) ∧
    Keep fs own noX h ((h.push { cls := .type "tuple", data := .seq rest.toArray }).push (excObj C h.objs.size)) ∧ OwnExt own own' h := by
  obtain ⟨I1, k1⟩ := I.push_any { cls := .type "tuple", data := .seq rest.toArray }
  have sz : (h.push { cls := .type "tuple", data := .seq rest.toArray }).objs.size = h.objs.size + 1 := Heap.size_push ..
  generalize hh : h.push { cls := .type "tuple", data := .seq rest.toArray } = hA at *
  have n := get?_size hA
  have gx : (hA.push (excObj C h.objs.size)).get? hA.objs.size = some (excObj C h.objs.size) := Heap.get?_push_size hA rfl
  have none_a := I1.noOwner n
  obtain ⟨I2, k2, x⟩ := I1.alloc (mo := .exc C []) (h' := hA.push (excObj C h.objs.size)) n (base_size I1) (fun b o e => Heap.get?_push_of_some _ e) gx (refNe C)
    (fun tk => ⟨none, _, _, gx, .inl ⟨rfl, fun t' o q g => by
      unfold ownNew at q
      by_cases z : t' = hA.objs.size
      · subst z
        rw [gx] at g; cases g
        intro z; cases z
      · rw [if_neg z] at q; exact absurd q (none_a t')⟩, .inl ⟨rfl, rfl⟩⟩)
  rw [sz] at I2 x
  exact ⟨_, I2, k1.trans (.refl own h) k2, OwnExt.trans (.refl own h) k1 x⟩
theorem exc_intro {C fI : Addr} (c : excChk cx.K C fI = true) {args : List MV} (hl : args.length ≤ 1000) {Q E : MV → Hp → Prop}
    (q : ∀ a, σ a = none → CodeSpec cx r (.ref fI) (.ref a :: args) (σ.put a (.exc C [])) (fun v σ' => v = .none ∧ Q (.ref a) σ') E) : CodeSpec cx (r + 1) (.ref C) args σ Q E := by
  unfold excChk at c
  simp only [Bool.and_eq_true, beq_iff_eq] at c
  obtain ⟨⟨⟨⟨⟨c1, c2⟩, c3⟩, c4⟩, c5⟩, c6⟩ := c
  intro A fs own h t vs ac I rv
  obtain ⟨own', I', k, x⟩ := I.makeExc C vs
  have tk := I.tk0 k
  refine exc_core I.K c1 c2 c3 c4 c5 c6 (by rw [rv.length]; exact Nat.le_trans hl (by decide)) ?_
  refine codeAny_mono (q (h.objs.size + 1) (I.fresh (Heap.get?_none_of_le (Nat.le_succ _))).1 _ fs own' _ t _ (under_call ac) I' (.cons (.mk_ref _) (rv.tk tk))) fun r s' z => ?_
  rcases r with e | (v | _ | _ | _)
  · exact Pst.up x k z
  · exact z.elim
  · exact z.elim
  · exact z.elim
  · obtain ⟨h', t', own2, σ', e, I2, x2, k2, m, rm, rfl, q'⟩ := z
    exact ⟨rm.none_inv, h', t', own2, σ', e, I2, x.trans k x2, k.trans x k2, .ref _, .mk_ref _, q'⟩
/-! builtins -/
theorem len_spec {a : Addr} {xs : List MV} (hs : σ a = some (.list xs)) (hl : xs.length ≤ lineL) {Q E : MV → Hp → Prop} (q : Q (.int xs.length) σ) : CallSpec cx r (.builtin "len") [.ref a] σ Q E := by
  intro A fs own h t vs ac I rv
  obtain ⟨v, vs', rfl, r1, r2⟩ := rv.cons_inv
  rw [r2.nil_inv, r1.ref_inv]
  obtain ⟨_, ys, n, g, rs⟩ := I.objs a _ hs
  have l := rs.length
  refine PyProof.Rows.len_list (s := cx.mk' h t) (isList g) ?_ ?_
  · simp only [List.size_toArray, l]; unfold lineL at hl; lia
  · have e : ((ys.toArray.size : Nat) : Int) = (xs.length : Int) := by simp [l]
    rw [e]
    exact val_here I (.mk_int _ _) q
theorem append_spec {a : Addr} {xs : List MV} {x : MV} (hs : σ a = some (.list xs)) (hl : xs.length ≤ lineL) {Q E : MV → Hp → Prop} (q : Q .none (σ.put a (.list (xs ++ [x])))) : CallSpec cx r (.builtin "list.append") [.ref a, x] σ Q E := by
  intro A fs own h t vs ac I rv
  obtain ⟨v, vs', rfl, r1, r2⟩ := rv.cons_inv
  obtain ⟨u, vs'', rfl, r2, r3⟩ := r2.cons_inv
  rw [r3.nil_inv, r1.ref_inv]
  obtain ⟨oa, ys, n, g, rs⟩ := I.objs a _ hs
  have l := rs.length
  refine append_at g (by rw [l]; exact hl) fun h' n' g' hk => ?_
  obtain ⟨I', k⟩ := I.store (h' := h') (mo' := .list (xs ++ [x])) hs (fun b o e1 e2 => hk b o (fun z => by subst z; exact e2 oa) e1)
    (fun b o eb gg => by
      by_cases z : b = a
      · subst z; rw [g] at gg; cases gg; exact ⟨_, g', rfl⟩
      · exact ⟨o, hk b o z gg, rfl⟩) (fun tk => ⟨ys ++ [u], n', g', (rs.tk tk).append (.cons (r2.tk tk) .nil)⟩)
  exact ⟨h', t, own, _, rfl, I', .refl .., k, .none, .mk_none, q⟩
theorem pop_spec {a : Addr} {xs : List MV} {x : MV} (hs : σ a = some (.list (xs ++ [x]))) (hl : xs.length < lineL) {Q E : MV → Hp → Prop} (q : Q x (σ.put a (.list xs))) : CallSpec cx r (.builtin "list.pop") [.ref a] σ Q E := by
  intro A fs own h t vs ac I rv
  obtain ⟨v, vs', rfl, r1, r2⟩ := rv.cons_inv
  rw [r2.nil_inv, r1.ref_inv]
  obtain ⟨oa, ys, n, g, rs⟩ := I.objs a _ hs
  obtain ⟨ys', u, rfl, ry, ru⟩ := rs.snoc_inv
  have l := ry.length
  refine call_meets (s := cx.mk' h t) F.slot_list_pop ⟨_, g, rfl⟩ F.entry_list_pop (F.args_list_pop_1 _) (PySem.MeetsSeq.list_pop_last a (ys' ++ [u]).toArray n u (by simp) (by simp; unfold lineL at hl; rw [l]; rw [sizeLine_eq]; lia)) ⟨g, ?_⟩
  have g' := Heap.get?_update_self (Obj.mapSeq fun xs => xs.eraseIdxIfInBounds ((ys' ++ [u]).toArray.size - 1)) g rfl
  have e : (ys' ++ [u]).toArray.eraseIdxIfInBounds ((ys' ++ [u]).toArray.size - 1) = ys'.toArray := by
    simp [Array.eraseIdxIfInBounds, List.eraseIdx_append_of_length_le]
  have oth : ∀ b, b ≠ a → (h.update a (Obj.mapSeq fun xs => xs.eraseIdxIfInBounds ((ys' ++ [u]).toArray.size - 1))).get? b = h.get? b := fun b nb => Heap.get?_update_other _ _ (Ne.symm nb)
  obtain ⟨I', k⟩ := I.store (h' := h.update a (Obj.mapSeq fun xs => xs.eraseIdxIfInBounds ((ys' ++ [u]).toArray.size - 1))) (mo' := .list xs) hs (fun b o e1 e2 => (oth b fun z => by subst z; exact e2 oa).trans e1)
    (fun b o eb gg => by
      by_cases z : b = a
      · subst z; rw [g] at gg; cases gg; exact ⟨_, g', rfl⟩
      · exact ⟨o, (oth b z).trans gg, rfl⟩) (fun tk => ⟨ys', _, by rw [← e]; exact g', ry.tk tk⟩)
  exact ⟨_, t, own, _, rfl, I', .refl .., k, x, ru.tk (I.tk0 k), q⟩
theorem reverse_spec {a : Addr} {xs : List MV} (hs : σ a = some (.list xs)) (hl : xs.length ≤ lineL) {Q E : MV → Hp → Prop} (q : Q .none (σ.put a (.list xs.reverse))) : CallSpec cx r (.builtin "list.reverse") [.ref a] σ Q E := by
  intro A fs own h t vs ac I rv
  obtain ⟨v, vs', rfl, r1, r2⟩ := rv.cons_inv
  rw [r2.nil_inv, r1.ref_inv]
  obtain ⟨oa, ys, n, g, rs⟩ := I.objs a _ hs
  have l := rs.length
  refine call_meets (s := cx.mk' h t) F.slot_list_reverse ⟨_, g, rfl⟩ F.entry_list_reverse (F.args_list_reverse_1 _) (PySem.AutoSeq1.list_reverse_list_0 a ys.toArray n (by simp; unfold lineL at hl; rw [l]; exact hl)) ⟨g, ?_⟩
  have g' := Heap.get?_update_self (Obj.mapSeq fun xs => xs.reverse) g rfl
  have e : ys.toArray.reverse = ys.reverse.toArray := by simp
  have oth : ∀ b, b ≠ a → (h.update a (Obj.mapSeq fun xs => xs.reverse)).get? b = h.get? b := fun b nb => Heap.get?_update_other _ _ (Ne.symm nb)
  obtain ⟨I', k⟩ := I.store (h' := h.update a (Obj.mapSeq fun xs => xs.reverse)) (mo' := .list xs.reverse) hs (fun b o e1 e2 => (oth b fun z => by subst z; exact e2 oa).trans e1)
    (fun b o eb gg => by
      by_cases z : b = a
      · subst z; rw [g] at gg; cases gg; exact ⟨_, g', rfl⟩
      · exact ⟨o, (oth b z).trans gg, rfl⟩) (fun tk => ⟨ys.reverse, _, by rw [← e]; exact g', (rs.tk tk).reverse⟩)
  exact ⟨_, t, own, _, rfl, I', .refl .., k, .none, .mk_none, q⟩
end
end Mine
end
section
open PySem PySem.W PyProof.Rows PySem.Builtin.ObjectAttr
set_option maxRecDepth 20000
namespace Mine
section
variable {T : Tab} {cx : Cx T} {CS : CSpec} {A : Around} {fs outer : List Env} {r : Nat} {env : Env} {nm : Nm} {sc : Sc} {loc loc2 : Loc} {own own1 own' : Addr → Option Addr} {σ σ1 : Hp} {h h0 h1 h2 h' : Heap} {t : Nat} {X Y : Addr → Prop} {M : Model}
theorem grown_val (I : Inv cx fs own σ h) (hk : ∀ b o, h.get? b = some o → h'.get? b = some o) {m : MV} {v : Value} {Q : MV → Hp → Prop} (rv : VRel T.sym h' m v) (q : Q m σ) :
    Pst cx fs noX own h (VQ (T := T) Q) v (cx.mk' h' t) := by
  obtain ⟨I', tk⟩ := I.grow hk
  refine ⟨h', t, own, σ, rfl, I', .refl .., ⟨fun a o e => ⟨o, hk _ _ e⟩, fun a o e _ _ => .inl (hk _ _ e), fun a o _ _ _ e => ⟨o, hk _ _ e, rfl⟩⟩, m, rv, q⟩
set_option tactic.hygienic true in
theorem max_spec {a b : Int} {Q E : MV → Hp → Prop} (q : Q (.int (if b > a then b else a)) σ) : CallSpec cx (r + 1) (.builtin "max") [.int a, .int b] σ Q E := by
  intro A fs own h t vs ac I rv
  obtain ⟨v, vs', rfl, r1, r2⟩ := rv.cons_inv
  obtain ⟨u, vs'', rfl, r2, r3⟩ := r2.cons_inv
  obtain ⟨t1, rfl⟩ := r1.int_inv
  obtain ⟨t2, rfl⟩ := r2.int_inv
  rw [r3.nil_inv]
  refine max_two_ints (s := cx.mk' h t) (ac.hd (by lia)) fun h' tk hk => ?_
  split
  · rename_i z; rw [if_pos z] at q; exact grown_val I hk (.mk_int _ _) q
  · rename_i z; rw [if_neg z] at q; exact grown_val I hk (.mk_int _ _) q
set_option tactic.hygienic true in
theorem min_spec {a b : Int} {Q E : MV → Hp → Prop} (q : Q (.int (if b < a then b else a)) σ) : CallSpec cx (r + 1) (.builtin "min") [.int a, .int b] σ Q E := by
  intro A fs own h t vs ac I rv
  obtain ⟨v, vs', rfl, r1, r2⟩ := rv.cons_inv
  obtain ⟨u, vs'', rfl, r2, r3⟩ := r2.cons_inv
  obtain ⟨t1, rfl⟩ := r1.int_inv
  obtain ⟨t2, rfl⟩ := r2.int_inv
  rw [r3.nil_inv]
  refine min_two_ints (s := cx.mk' h t) (ac.hd (by lia)) fun h' tk hk => ?_
  split
  · rename_i z; rw [if_pos z] at q; exact grown_val I hk (.mk_int _ _) q
  · rename_i z; rw [if_neg z] at q; exact grown_val I hk (.mk_int _ _) q
theorem abs_spec {a : Int} {Q E : MV → Hp → Prop} (q : Q (.int (if a < 0 then -a else a)) σ) : CallSpec cx r (.builtin "abs") [.int a] σ Q E := by
  intro A fs own h t vs ac I rv
  obtain ⟨v, vs', rfl, r1, r2⟩ := rv.cons_inv
  obtain ⟨t1, rfl⟩ := r1.int_inv
  rw [r2.nil_inv]
  exact PyProof.Rows.call_abs_int (s := cx.mk' h t) fun u tk => val_here I (.mk_int _ _) q
theorem str_spec {a : Int} (ha : a.natAbs < 10 ^ 100) {Q E : MV → Hp → Prop} (q : ∀ x : Str, x.length ≤ 200 → Q (.txt x) σ) : CallSpec cx r (.type "str") [.int a] σ Q E := by
  intro A fs own h t vs ac I rv
  obtain ⟨v, vs', rfl, r1, r2⟩ := rv.cons_inv
  obtain ⟨t1, rfl⟩ := r1.int_inv
  rw [r2.nil_inv]
  have hl := int_text_length_le10 (k := 100) (by decide) ha
  have h2 : a.natAbs.log2 < 1920 := by
    by_cases z : a.natAbs = 0
    · rw [z]; decide
    · rw [Nat.log2_lt z]; exact Nat.lt_of_lt_of_le ha (by decide +kernel)
  refine PySem.P.str_of_int (s := cx.mk' h t) h2 (val_here I (.mk_txt _ _) (q _ ?_))
  rw [PySem.ofString_length]; lia
theorem valueAt_I {k : Int} : ∀ {kvs : List (Int × MV)} {l : List (Int × Value)}, KvI T.sym h kvs l → (getI k kvs = none ∧ valueAt l k = none) ∨ ∃ m v, getI k kvs = some m ∧ valueAt l k = some v ∧ VRel T.sym h m v
  | [], _, r => by obtain rfl := r; exact .inl ⟨rfl, rfl⟩
  | (j, m) :: kvs, _, r => by
    obtain ⟨v, l', rfl, rv, r⟩ := r
    rw [getI_cons]; unfold valueAt
    rw [List.find?_cons]
    by_cases z : j = k
    · rw [if_pos z, decide_eq_true (show (j, v).1 = k from z)]; exact .inr ⟨m, v, rfl, rfl, rv⟩
    · rw [if_neg z, decide_eq_false (show ¬ (j, v).1 = k from z)]; exact valueAt_I r
theorem getd_spec {a : Addr} {kvs : List (Int × MV)} {k : Int} (hs : σ a = some (.dI kvs)) {Q E : MV → Hp → Prop} (q : Q ((getI k kvs).getD .none) σ) : CallSpec cx r (.builtin "dict.get") [.ref a, .int k] σ Q E := by
  intro A fs own h t vs ac I rv
  obtain ⟨v, vs', rfl, r1, r2⟩ := rv.cons_inv
  obtain ⟨u, vs'', rfl, r2, r3⟩ := r2.cons_inv
  obtain ⟨t1, rfl⟩ := r2.int_inv
  rw [r3.nil_inv, r1.ref_inv]
  obtain ⟨_, hsys, l, hd, kr⟩ := I.objs a _ hs
  refine call_meetsIn (s := cx.mk' h t) F.slot_dict_get hd.mapOf.typeIs F.entry_dict_get (F.args_dict_get_2 _ _) (meets_dict_get (intKind cx.prog cx.w) a (k := k) (by simp [intKind, Value.isInt]) hsys) ⟨_, hd.mapOf, ?_⟩
  rcases valueAt_I (k := k) kr with ⟨z1, z2⟩ | ⟨m, v, z1, z2, rv⟩
  · rw [z1] at q; rw [z2]; exact val_here I .mk_none q
  · rw [z1] at q; rw [z2]; exact val_here I rv q
theorem ints_of_items : ∀ (vs : List Value) (ks : List Int), vs.length = ks.length → (∀ (j : Nat) (v : Value), vs[j]? = some v → ∃ k t, ks[j]? = some k ∧ v = Value.int k t) → IntsAre vs ks
  | [], [], _, _ => .nil
  | [], _ :: _, l, _ => by cases l
  | _ :: _, [], l, _ => by cases l
  | v :: vs, k :: ks, l, f => by
    obtain ⟨k', t, e, rfl⟩ := f 0 v rfl
    cases e
    exact .cons _ _ (ints_of_items vs ks (by simpa using l) fun j u e => by simpa using f (j + 1) u (by simpa using e))
theorem ints_rels {sy : List Str} : ∀ {vs : List Value} {ks : List Int}, IntsAre vs ks → VRels sy h (ks.map MV.int) vs
  | _, _, .nil => .nil
  | _, _, .cons n t r => .cons (.mk_int _ _) (ints_rels r)
theorem kvi_keys {sy : List Str} : ∀ {kvs : List (Int × MV)} {l : List (Int × Value)}, KvI sy h kvs l → l.map (·.1) = kvs.map (·.1)
  | [], _, r => by obtain rfl := r; rfl
  | (j, m) :: kvs, _, r => by
    obtain ⟨v, l', rfl, rv, r⟩ := r
    simp [kvi_keys r]
theorem sortd_spec {a : Addr} {kvs : List (Int × MV)} (hs : σ a = some (.dI kvs)) (hl : kvs.length < 64) {Q E : MV → Hp → Prop}
    (q : ∀ (a' : Addr) (ns : List Int), σ a' = none → ns.Perm (kvs.map (·.1)) → ns.Pairwise (· ≤ ·) → Q (.ref a') (σ.put a' (.list (ns.map MV.int)))) : CallSpec cx (r + 1) (.builtin "sorted") [.ref a] σ Q E := by
  intro A fs own h t vs ac I rv
  obtain ⟨v, vs', rfl, r1, r2⟩ := rv.cons_inv
  rw [r2.nil_inv, r1.ref_inv]
  obtain ⟨_, hsys, l, hd, kr⟩ := I.objs a _ hs
  have lk := kvi_keys kr
  have ll : l.length = kvs.length := by have := congrArg List.length lk; simpa using this
  obtain ⟨ep, hat⟩ := hd.dictAt
  refine Calls.call_function_entry kind_sorted plain_sorted entry_sorted (args_sorted1 _) ?_
  unfold Builtin.«sorted»
  refine wpAny_bind (m := checkCount "sorted" 1 1 _) (wpAny_pure ?_)
  refine wpAny_bind (kdu_collect (A := A.in1) (s := cx.mk' h t) (kdl_dict (knd := intKind cx.prog cx.w) (kvs := l) (ep := ep) hsys) (ac.hd (by lia)) hat (by rw [sizeLine_eq]; lia) fun h' tk acc hk hacc => ?_)
  have hk : ∀ b o, h.get? b = some o → h'.get? b = some o := hk
  have al : acc.toList.length = kvs.length := by rw [Array.length_toList, hacc.1, ll]
  have hI : IntsAre acc.toList (kvs.map (·.1)) := ints_of_items _ _ (by rw [al, List.length_map]) fun j v e => by
    obtain ⟨k, x, e1, e2⟩ := hacc.2 j v (by rw [← Array.getElem?_toList]; exact e)
    obtain ⟨t', rfl⟩ := Value.isInt_shape e2
    refine ⟨k, t', ?_, rfl⟩
    rw [← lk, List.getElem?_map, e1]; rfl
  refine wpAny_bind (wpAny_newList ?_ (by rw [al, sizeLine_eq]; lia))
  have hoL : (h'.push (seqObj "list" acc.toList.toArray 0)).get? h'.objs.size = some (seqObj "list" acc.toList.toArray 0) := Heap.get?_push_size _ rfl
  refine wpAny_bind (wpAny_holding (wpAny_call_entry slot_list_sort ⟨_, hoL, rfl⟩ entry_list_sort (list_sort_tree hoL hI (by lia) fun out ns' a1 a2 a3 => ⟨_, rfl, ?_⟩) (args_list_sort _)))
  refine wpAny_pure ⟨_, rfl, ?_⟩
  obtain ⟨I1, tk1⟩ := I.grow hk
  obtain ⟨e, he⟩ := sortedHeap_at (out := out) hoL
  have old : ∀ b o, h'.get? b = some o → (sortedHeap (h'.push (seqObj "list" acc.toList.toArray 0)) h'.objs.size acc.toList out).get? b = some o := fun b o e => by
    have lt := Heap.lt_size e
    rw [sortedHeap_old (Nat.ne_of_lt lt) (by rw [Heap.size_push]; exact Nat.lt_succ_of_lt lt)]
    exact Heap.get?_push_of_some _ e
  have kp : Keep fs own noX h h' := ⟨fun a o e => ⟨o, hk _ _ e⟩, fun a o e _ _ => .inl (hk _ _ e), fun a o _ _ _ e => ⟨o, hk _ _ e, rfl⟩⟩
  obtain ⟨I2, k2, x2⟩ := I1.alloc (mo := .list (ns'.map MV.int)) (get?_size h') (base_size I1) old he listNe fun tk => ⟨out.toList, e, by simpa [W.listOf, seqObj] using he, ints_rels a1⟩
  exact ⟨_, tk, _, _, rfl, I2, OwnExt.trans (.refl own h) kp x2, Keep.trans (.refl own h) kp k2, .ref h'.objs.size, .mk_ref _, q _ _ (I1.fresh (get?_size h')).1 a2 a3⟩
end
end Mine
end
section
open PySem PySem.W PyProof.Rows
set_option maxRecDepth 100000
namespace Mine
structure PsOk (fd : FuncData) (ps : List Str) : Prop where
  po : fd.params.posonlyargs = []
  ar : fd.params.args.map (·.arg) = ps
  va : fd.params.vararg = none
  ko : fd.params.kwonlyargs = []
  kw : fd.params.kwarg = none
noncomputable def addAll : List (Str × Value) → List (Str × Value) → List (Str × Value)
  | sl, [] => sl
  | sl, x :: r => addAll (if (sl.lookup x.1).isNone then sl ++ [x] else sl) r
theorem lookup_key {x : Str} : ∀ {l : List (Str × Value)}, x ∈ l.map (·.1) → (l.lookup x).isNone = false
  | [], h => by simp at h
  | (k, v) :: r, h => by
    rw [List.lookup_cons]
    by_cases q : (x == k) = true
    · rw [q]; rfl
    · rw [Bool.not_eq_true] at q
      rw [q]
      rw [List.map_cons, List.mem_cons] at h
      rcases h with z | z
      · rw [show x = k from z] at q; simp at q
      · exact lookup_key z
theorem lookup_nokey {x : Str} : ∀ {l : List (Str × Value)}, x ∉ l.map (·.1) → (l.lookup x).isNone = true
  | [], _ => rfl
  | (k, v) :: r, h => by
    rw [List.map_cons, List.mem_cons, not_or] at h
    rw [List.lookup_cons, beq_eq_false_iff_ne.mpr h.1]
    exact lookup_nokey h.2
theorem addAll_cons {x : Str × Value} {r sl : List (Str × Value)} : addAll sl (x :: r) = addAll (if (sl.lookup x.1).isNone then sl ++ [x] else sl) r := rfl
theorem addAll_app : ∀ (l1 l2 sl : List (Str × Value)), addAll sl (l1 ++ l2) = addAll (addAll sl l1) l2
  | [], _, _ => rfl
  | _ :: r, l2, sl => addAll_app r l2 _
theorem addAll_skip : ∀ (l sl : List (Str × Value)), (∀ x ∈ l, x.1 ∈ sl.map (·.1)) → addAll sl l = sl
  | [], _, _ => rfl
  | x :: r, sl, h => by
    rw [addAll_cons, lookup_key (h x (.head _))]
    exact addAll_skip r sl fun y hy => h y (.tail _ hy)
theorem addAll_new : ∀ (l sl : List (Str × Value)), (l.map (·.1)).Nodup → (∀ x ∈ l, x.1 ∉ sl.map (·.1)) → addAll sl l = sl ++ l
  | [], sl, _, _ => (List.append_nil sl).symm
  | x :: r, sl, nd, h => by
    rw [addAll_cons, lookup_nokey (h x (.head _)), if_pos rfl]
    rw [List.map_cons, List.nodup_cons] at nd
    rw [addAll_new r _ nd.2 fun y hy => ?_, List.append_assoc]
    · rfl
    · rw [List.map_append, List.mem_append, not_or]
      refine ⟨h y (.tail _ hy), fun z => ?_⟩
      simp only [List.map_cons, List.map_nil, List.mem_singleton] at z
      exact nd.1 (z ▸ List.mem_map.mpr ⟨y, hy, rfl⟩)
theorem fm_congr {α β : Type} {f g : α → Option β} : ∀ (l : List α), (∀ x ∈ l, f x = g x) → l.filterMap f = l.filterMap g
  | [], _ => rfl
  | x :: r, h => by rw [List.filterMap_cons, List.filterMap_cons, h x (.head _), fm_congr r fun y hy => h y (.tail _ hy)]
theorem gather_zip : ∀ (ps : List Str) (xs : List Value), ps.Nodup → xs.length = ps.length → ps.filterMap (fun n => ((ps.zip xs).lookup n).map (n, ·)) = ps.zip xs
  | [], xs, _, _ => by cases xs <;> rfl
  | p :: ps, [], _, h => by cases h
  | p :: ps, x :: xs, nd, h => by
    rw [List.nodup_cons] at nd
    rw [List.zip_cons_cons, List.filterMap_cons, List.lookup_cons, beq_self_eq_true]
    show (p, x) :: _ = _
    refine congrArg _ ((fm_congr ps fun n hn => ?_).trans (gather_zip ps xs nd.2 (by simpa using h)))
    rw [List.lookup_cons, beq_eq_false_iff_ne.mpr (fun z => nd.1 (by rw [← show n = p from z]; exact hn))]
theorem zip_take {ps : List Str} {vs : List Value} (h1 : vs.length ≤ ps.length) : ps.zip vs = (ps.take vs.length).zip vs := by
  have tl : (ps.take vs.length).length = vs.length := by rw [List.length_take, Nat.min_eq_left h1]
  have := @List.zip_append _ _ (ps.take vs.length) (ps.drop vs.length) vs [] tl
  rwa [List.take_append_drop, List.append_nil, List.zip_nil_right, List.append_nil] at this
theorem keys_zip {ps : List Str} {vs : List Value} (h1 : vs.length ≤ ps.length) : (ps.zip vs).map Prod.fst = ps.take vs.length := by
  rw [zip_take h1]
  exact List.map_fst_zip (Nat.le_of_eq (by rw [List.length_take, Nat.min_eq_left h1]))
theorem slots_all {ps : List Str} {vs ds : List Value} (nd : ps.Nodup) (h1 : vs.length ≤ ps.length) (h2 : ps.length ≤ vs.length + ds.length) (h3 : ds.length ≤ ps.length) :
    addAll (ps.zip vs) ((ps.drop (ps.length - ds.length)).zip ds) = ps.zip (vs ++ ds.drop (vs.length + ds.length - ps.length)) := by
  have z1 : ps.length - ds.length + ds.length = ps.length := Nat.sub_add_cancel h3
  have z2 : ps.length - ds.length ≤ vs.length := Nat.sub_le_iff_le_add.mpr h2
  generalize ps.length - ds.length = f at z1 z2 ⊢
  have z3 : ps.length - f = ds.length := by rw [← z1, Nat.add_sub_cancel_left]
  have e : vs.length + ds.length - ps.length = vs.length - f := by rw [← z1, Nat.add_sub_add_right]
  have z4 : f + (vs.length - f) = vs.length := Nat.add_sub_of_le z2
  rw [e]
  generalize vs.length - f = k at z4 ⊢
  clear e h2 h3
  have z5 : ps.length - vs.length = ds.length - k := by rw [← z4, ← z1, Nat.add_sub_add_left]
  have tl : (ps.take vs.length).length = vs.length := by rw [List.length_take, Nat.min_eq_left h1]
  have s1 : (ps.drop f).zip ds = ((ps.drop f).take k).zip (ds.take k) ++ (ps.drop vs.length).zip (ds.drop k) := by
    conv => lhs; rw [← List.take_append_drop k (ps.drop f), ← List.take_append_drop k ds]
    rw [List.zip_append (by rw [List.length_take, List.length_take, List.length_drop, z3]), List.drop_drop, z4]
  have s3 := zip_take h1
  have s2 : ps.zip (vs ++ ds.drop k) = ps.zip vs ++ (ps.drop vs.length).zip (ds.drop k) := by
    rw [s3]
    conv => lhs; rw [← List.take_append_drop vs.length ps]
    exact List.zip_append tl
  have keys : (ps.zip vs).map (·.1) = ps.take vs.length := keys_zip h1
  have a1 : addAll (ps.zip vs) (((ps.drop f).take k).zip (ds.take k)) = ps.zip vs := by
    refine addAll_skip _ _ fun x hx => ?_
    rw [keys]
    have m := (List.of_mem_zip (show (x.1, x.2) ∈ _ from hx)).1
    rw [List.take_drop, z4] at m
    exact (List.drop_sublist _ _).subset m
  rw [s1, addAll_app, a1, s2, addAll_new]
  · rw [show (fun x : Str × Value => x.1) = Prod.fst from rfl, List.map_fst_zip (by rw [List.length_drop, List.length_drop, z5]; exact Nat.le_refl _)]
    exact nd.sublist (List.drop_sublist _ _)
  · intro x hx
    rw [keys]
    have m : x.1 ∈ ps.drop vs.length := (List.of_mem_zip (show (x.1, x.2) ∈ _ from hx)).1
    intro z
    have := nd
    rw [← List.take_append_drop vs.length ps, List.nodup_append] at this
    exact this.2.2 _ z _ m rfl
theorem bind_gen {s : Shared} {fd : FuncData} {ps : List Str} {vs ds : List Value} (ok : PsOk fd ps) (nd : ps.Nodup) (hd : (fd.defaults = .none ∧ ds = []) ∨ ∃ T o n, fd.defaults = .ref T ∧ s.heap.get? T = some o ∧ o.data = .seq ds.toArray n)
    (h1 : vs.length ≤ ps.length) (h2 : ps.length ≤ vs.length + ds.length) (h3 : ds.length ≤ ps.length) : BindsTo s fd ⟨vs, []⟩ (ps.zip (vs ++ ds.drop (vs.length + ds.length - ps.length))) := by
  obtain ⟨_, _, ⟨po, ar, va, ko, kd, kw, df⟩, _, _, _, _, dfl, _⟩ := fd
  obtain ⟨rfl, har, rfl, rfl, rfl⟩ := ok
  dsimp only at hd har
  intro M A E Q q
  unfold bindArgs
  simp only [List.map_nil, List.nil_append, har, List.forIn_nil, Option.isSome_none, Bool.false_eq_true, if_false, List.append_nil]
  refine wpAny_bind (wpAny_pure ?_)
  have cont : ∀ (k : Option (Array Value) → Sem (List (Str × Value))), (∀ o : Option (Array Value), (o.getD #[]).toList = ds → wpAny M A (k o) Q E s) → wpAny M A (seqItems? dfl >>= k) Q E s := fun k hk => by
    rcases hd with ⟨rfl, rfl⟩ | ⟨T, o, n, rfl, ho, hs⟩
    · exact wpAny_bind (m := seqItems? .none) (wpAny_pure (a := none) (hk none rfl))
    · exact wpAny_bind (wpAny_seqItems ho hs (hk _ rfl))
  refine cont _ fun o ho => ?_
  have nm : (List.filter (fun n => (List.lookup n (ps.zip vs)).isNone) (List.take (ps.length - ds.length) ps)).isEmpty = true := by
    rw [List.isEmpty_iff, List.filter_eq_nil_iff]
    intro x hx
    rw [lookup_key]
    · decide
    · rw [show (fun x : Str × Value => x.1) = Prod.fst from rfl]
      rw [keys_zip h1]
      have : (ps.take vs.length).take (ps.length - ds.length) = ps.take (ps.length - ds.length) := by rw [List.take_take, Nat.min_eq_left (Nat.sub_le_iff_le_add.mpr h2)]
      rw [← this] at hx
      exact List.mem_of_mem_take hx
  have n1 : (decide (vs.length > ps.length) && (none : Option Arg).isNone) = false := by rw [decide_eq_false (Nat.not_lt.mpr h1)]; rfl
  have n2 : ds.length - ps.length = 0 := Nat.sub_eq_zero_of_le h3
  simp only [ho, n1, n2, List.drop_zero, Bool.false_eq_true, if_false, nm, Bool.not_true]
  have loop : ∀ (l sl : List (Str × Value)), (forIn l sl fun (x : Str × Value) __s => if (List.lookup x.fst __s).isNone = true then pure (ForInStep.yield (__s ++ [(x.fst, x.snd)])) else pure (ForInStep.yield __s) : Sem (List (Str × Value))) = pure (addAll sl l) := fun l => by
    induction l with
    | nil => intro sl; rfl
    | cons x r ih =>
      intro sl
      rw [List.forIn_cons]
      rw [addAll_cons]
      by_cases q : (List.lookup x.fst sl).isNone = true
      · rw [if_pos q, if_pos q]; exact ih _
      · rw [if_neg q, if_neg q]; exact ih _
  rw [loop, slots_all nd h1 h2 h3]
  refine wpAny_bind (wpAny_pure (wpAny_bind (wpAny_pure ?_)))
  simp only [List.isEmpty_nil, Bool.not_true, Bool.false_eq_true, if_false]
  rw [gather_zip _ _ nd (by rw [List.length_append, List.length_drop]; lia)]
  exact wpAny_pure q
end Mine
end
section
open PySem PySem.W PyProof.Rows
set_option maxRecDepth 20000
namespace Mine
structure Tk (Q E : MV → Hp → Prop) : Type where
structure TkS (Q : Out → Loc → Hp → Prop) (E : MV → Loc → Hp → Prop) : Type where
noncomputable def CS1 {T : Tab} (cx : Cx T) (r : Nat) (f : Value) (args : List MV) (σ : Hp) (Q E : MV → Hp → Prop) (_ : Tk Q E) : Prop := CallSpec cx r f args σ Q E
noncomputable def CSf {T : Tab} (cx : Cx T) : CSpec := CallSpec cx
noncomputable def seqQ (K : Loc → Hp → Prop) (Q : Out → Loc → Hp → Prop) : Out → Loc → Hp → Prop
  | .next, l, σ => K l σ
  | .cont, l, σ => Q .cont l σ
  | .brk, l, σ => Q .brk l σ
  | .ret v, l, σ => Q (.ret v) l σ
noncomputable def retQ (Q : MV → Hp → Prop) (o : Out) (_ : Loc) (σ : Hp) : Prop := match o with
  | .ret v => Q v σ
  | .next => Q .none σ
  | _ => False
noncomputable def swpL (T : Tab) (CS : CSpec) (r : Nat) (s : MS) (loc : Loc) (σ : Hp) (Q : Out → Loc → Hp → Prop) (E : MV → Loc → Hp → Prop) (_ : TkS Q E) : Prop := swp T CS r s loc σ Q E
noncomputable def ewpL (T : Tab) (CS : CSpec) (r : Nat) (e : ME) (loc : Loc) (σ : Hp) (Q E : MV → Hp → Prop) (_ : Tk Q E) : Prop := ewp T CS r e loc σ Q E
section
variable {T : Tab} {cx : Cx T} {CS : CSpec} {r : Nat} {loc : Loc} {σ : Hp} {Q E : MV → Hp → Prop} {QB : Bool → Hp → Prop} {QS : Out → Loc → Hp → Prop} {ES : MV → Loc → Hp → Prop} {QL : List MV → Hp → Prop} {K : Loc → Hp → Prop}
theorem csf_eq {f : Value} {args : List MV} : CSf cx r f args σ Q E = CS1 cx r f args σ Q E ⟨⟩ := rfl
theorem seqQ_next {l : Loc} : seqQ K QS .next l σ = K l σ := rfl
theorem seqQ_cont {l : Loc} : seqQ K QS .cont l σ = QS .cont l σ := rfl
theorem seqQ_brk {l : Loc} : seqQ K QS .brk l σ = QS .brk l σ := rfl
theorem seqQ_ret {l : Loc} {v : MV} : seqQ K QS (.ret v) l σ = QS (.ret v) l σ := rfl
theorem retQ_ret {l : Loc} {v : MV} : retQ Q (.ret v) l σ = Q v σ := rfl
theorem retQ_next {l : Loc} : retQ Q .next l σ = Q .none σ := rfl
noncomputable def callK (CS : CSpec) (r : Nat) (fv : MV) (K : Value → Prop) : Prop := match fv with | .con v => K v | _ => False
theorem e_comp {elt e1 e2 : ME} {ti : List Nat} {one : Bool} {k : SrcK} {conds : List ME} : ewp T CS r (.comp elt ti one k e1 e2 conds) loc σ Q E = ewpL T CS r (.comp elt ti one k e1 e2 conds) loc σ Q E ⟨⟩ := rfl
theorem e_dS0 : ewp T CS r .dS loc σ Q E = newP (.dS []) σ Q := rfl
theorem c_nil {Q : Bool → Hp → Prop} : condwp T CS r [] loc σ Q = Q true σ := rfl
theorem c_one {c : ME} {Q : Bool → Hp → Prop} : condwp T CS r [c] loc σ Q = twp T CS r c loc σ Q (fun _ _ => False) := propext ⟨fun q => And.right q, fun q => ⟨rfl, q⟩⟩
theorem s_nil : swps T CS r [] loc σ QS ES = QS .next loc σ := rfl
theorem s_cons {s : MS} {ss : List MS} : swps T CS r (s :: ss) loc σ QS ES = swp T CS r s loc σ (seqQ (fun l σ1 => swps T CS r ss l σ1 QS ES) QS) ES :=
  congrArg (fun F => swp T CS r s loc σ F ES) (funext fun o => funext fun l => funext fun σ1 => by cases o <;> rfl)
theorem s_one {s : MS} : swps T CS r [s] loc σ QS ES = swp T CS r s loc σ QS ES :=
  congrArg (fun F => swp T CS r s loc σ F ES) (funext fun o => funext fun l => funext fun σ1 => by cases o <;> rfl)
theorem s_step {ms : List MS} {s : MS} {ss : List MS} (h : ms = s :: ss) (q : swp T CS r s loc σ (seqQ (fun l σ1 => swps T CS r ss l σ1 QS ES) QS) ES) : swps T CS r ms loc σ QS ES := by
  subst h
  exact s_cons.mpr q
theorem s_last {ms : List MS} {s : MS} (h : ms = [s]) (q : swp T CS r s loc σ QS ES) : swps T CS r ms loc σ QS ES := by
  subst h
  exact s_one.mpr q
theorem s_expr {e : ME} : swp T CS r (.expr e) loc σ QS ES = ewp T CS r e loc σ (fun _ σ1 => QS .next loc σ1) (fun x σ1 => ES x loc σ1) := rfl
theorem s_cont : swp T CS r .cont loc σ QS ES = QS .cont loc σ := rfl
theorem s_ret {e : ME} : swp T CS r (.ret e) loc σ QS ES = ewp T CS r e loc σ (fun v σ1 => QS (.ret v) loc σ1) (fun x σ1 => ES x loc σ1) := rfl
theorem s_asg_nm {i : Nat} {e : ME} : swp T CS r (.asg (.nm i) e) loc σ QS ES = ewp T CS r e loc σ (fun v σ1 => setP loc i v fun l => QS .next l σ1) (fun x σ1 => ES x loc σ1) := rfl
theorem s_asg_attr {n : Nat} {o e : ME} : swp T CS r (.asg (.attr o n) e) loc σ QS ES = ewp T CS r e loc σ (fun v σ1 => ewp T CS r o loc σ1 (fun ov σ2 => setAttrP T ov n v σ2 fun σ3 => QS .next loc σ3) (fun x σ1 => ES x loc σ1)) (fun x σ1 => ES x loc σ1) := rfl
theorem s_asg_item {o i e : ME} : swp T CS r (.asg (.item o i) e) loc σ QS ES = ewp T CS r e loc σ (fun v σ1 => ewp T CS r o loc σ1 (fun ov σ2 => ewp T CS r i loc σ2 (fun iv σ3 => setItemP ov iv v σ3 fun σ4 => QS .next loc σ4) (fun x σ1 => ES x loc σ1)) (fun x σ1 => ES x loc σ1)) (fun x σ1 => ES x loc σ1) := rfl
noncomputable def tupP (v : MV) (K : List MV → Prop) : Prop := match v with
  | .tup xs => K xs
  | _ => False
theorem tupP_tup {xs : List MV} {K : List MV → Prop} : tupP (.tup xs) K = K xs := rfl
theorem s_asg_tup {is : List Nat} {e : ME} : swp T CS r (.asg (.tup is) e) loc σ QS ES = ewp T CS r e loc σ (fun v σ1 => r ≠ 0 ∧ tupP v fun xs => manyP loc is xs fun l => QS .next l σ1) (fun x σ1 => ES x loc σ1) := rfl
noncomputable def intsP (a b : MV) : Prop := match a, b with | .int _, .int _ => True | _, _ => False
theorem intsP_int {i j : Int} : intsP (.int i) (.int j) = True := rfl
theorem s_aug_nm {i : Nat} {op : Operator} {e : ME} : swp T CS r (.aug (.nm i) op e) loc σ QS ES = locP loc[i]? fun old => ewp T CS r e loc σ (fun v σ1 => intsP old v ∧ binP op old v σ1 fun new σ2 => setP loc i new fun l => QS .next l σ2) (fun x σ1 => ES x loc σ1) := rfl
theorem s_aug_attr {n : Nat} {op : Operator} {o e : ME} : swp T CS r (.aug (.attr o n) op e) loc σ QS ES = ewp T CS r o loc σ (fun ov σ1 => attrP T ov n σ1 fun old => ewp T CS r e loc σ1 (fun v σ2 => intsP old v ∧ binP op old v σ2 fun new σ3 => setAttrP T ov n new σ3 fun σ4 => QS .next loc σ4) (fun x σ1 => ES x loc σ1)) (fun x σ1 => ES x loc σ1) := rfl
theorem s_aug_item {op : Operator} {o i e : ME} : swp T CS r (.aug (.item o i) op e) loc σ QS ES = ewp T CS r o loc σ (fun ov σ1 => ewp T CS r i loc σ1 (fun iv σ2 => itemP ov iv σ2 fun old σ3 => ewp T CS r e loc σ3 (fun v σ4 => intsP old v ∧ binP op old v σ4 fun new σ5 => setItemP ov iv new σ5 fun σ6 => QS .next loc σ6) (fun x σ1 => ES x loc σ1)) (fun x σ1 => ES x loc σ1)) (fun x σ1 => ES x loc σ1) := rfl
theorem s_ite {c : ME} {a b : List MS} : swp T CS r (.ite c a b) loc σ QS ES = twp T CS r c loc σ (fun t σ1 => if t then swps T CS r a loc σ1 QS ES else swps T CS r b loc σ1 QS ES) (fun x σ1 => ES x loc σ1) := rfl
theorem s_whl {c : ME} {b : List MS} : swp T CS r (.whl c b) loc σ QS ES = swpL T CS r (.whl c b) loc σ QS ES ⟨⟩ := rfl
theorem s_for {t : MT} {k : SrcK} {e1 e2 : ME} {b : List MS} : swp T CS r (.for t k e1 e2 b) loc σ QS ES = swpL T CS r (.for t k e1 e2 b) loc σ QS ES ⟨⟩ := rfl
theorem s_tryF {a b : List MS} : swp T CS r (.tryF a b) loc σ QS ES = swpL T CS r (.tryF a b) loc σ QS ES ⟨⟩ := rfl
theorem s_tryX {a b : List MS} {ty : ME} {i : Nat} : swp T CS r (.tryX a ty i b) loc σ QS ES = swpL T CS r (.tryX a ty i b) loc σ QS ES ⟨⟩ := rfl
noncomputable def rseP (T : Tab) (v : MV) (σ : Hp) (K : Prop) : Prop := ∃ a C fs, v = .ref a ∧ σ a = some (.exc C fs) ∧ T.subs.lookup (C, C) = some true ∧ K
theorem s_rse {e : ME} : swp T CS r (.rse e) loc σ QS ES = (r ≠ 0 ∧ ewp T CS r e loc σ (fun v σ1 => rseP T v σ1 (ES v loc σ1)) (fun x σ1 => ES x loc σ1)) := rfl
theorem put_eq {a : Addr} {o : MObj} : (σ.put a o) a = some o := by unfold Hp.put; rw [if_pos rfl]
theorem put_ne {a b : Addr} {o : MObj} (h : b ≠ a) : (σ.put a o) b = σ b := by unfold Hp.put; rw [if_neg h]
theorem put_put {a : Addr} {o o' : MObj} : (σ.put a o).put a o' = σ.put a o' := by funext b; unfold Hp.put; by_cases h : b = a <;> simp [h]
theorem put_id {a : Addr} {o : MObj} (h : σ a = some o) : σ.put a o = σ := by funext b; unfold Hp.put; by_cases q : b = a <;> simp [q, h]
theorem put_comm {a b : Addr} {o o' : MObj} (h : a ≠ b) : (σ.put a o).put b o' = (σ.put b o').put a o := by
  funext x; unfold Hp.put
  by_cases q : x = a
  · subst q; rw [if_neg h, if_pos rfl, if_pos rfl]
  · rw [if_neg q, if_neg q]
/-! loops -/
noncomputable def loopQ (N : Loc → Hp → Prop) (QS : Out → Loc → Hp → Prop) : Out → Loc → Hp → Prop
  | .next, l, s => N l s
  | .cont, l, s => N l s
  | .brk, l, s => QS .next l s
  | .ret v, l, s => QS (.ret v) l s
variable {N : Loc → Hp → Prop}
theorem loopQ_next {l : Loc} : loopQ N QS .next l σ = N l σ := rfl
theorem loopQ_cont {l : Loc} : loopQ N QS .cont l σ = N l σ := rfl
theorem loopQ_ret {l : Loc} {v : MV} : loopQ N QS (.ret v) l σ = QS (.ret v) l σ := rfl
theorem whl_rule {c : ME} {b : List MS} {t : TkS QS ES} (I : Nat → Loc → Hp → Prop) (n : Nat) (h0 : I n loc σ) (h : ∀ n loc σ, I n loc σ → twp T CS r c loc σ (fun t σ1 => if t then swps T CS r b loc σ1
        (loopQ (fun loc2 σ2 => ∃ m, m < n ∧ I m loc2 σ2) QS) ES else QS .next loc σ1) (fun x σ1 => ES x loc σ1)) :
    swpL T CS r (.whl c b) loc σ QS ES t := by
  refine Exists.intro I ⟨⟨n, h0⟩, fun n loc σ hI => ?_⟩
  refine Eq.mp (congrArg (fun F => twp T CS r c loc σ F (fun x σ1 => ES x loc σ1)) ?_) (h n loc σ hI)
  funext t σ1
  cases t with
  | false => rfl
  | true =>
    show swps T CS r b loc σ1 _ ES = swps T CS r b loc σ1 _ ES
    refine congrArg (fun F => swps T CS r b loc σ1 F ES) ?_
    funext o l s
    cases o <;> rfl
noncomputable def forK (T : Tab) (CS : CSpec) (r : Nat) (t : MT) (b : List MS) (loc : Loc) (QS : Out → Loc → Hp → Prop) (ES : MV → Loc → Hp → Prop) (σ2 : Hp) (xs : List MV) (st : Hp → Prop) : Prop :=
  ∃ I : List MV → Loc → Hp → Prop, I xs loc σ2 ∧ (∀ rest loc' σ', I rest loc' σ' → st σ') ∧
        (∀ x rest loc' σ', I (x :: rest) loc' σ' → asgP T CS r t x loc' σ' (fun loc3 σ3 => swps T CS r b loc3 σ3 (loopQ (I rest) QS) ES) (fun _ _ => False)) ∧
        ∀ loc' σ', I [] loc' σ' → QS .next loc' σ'
theorem for_rule {mt : MT} {k : SrcK} {e1 e2 : ME} {b : List MS} {t : TkS QS ES} (hr : r ≠ 0) (h : ewp T CS r e1 loc σ (fun v1 σ1 => ewp T CS r e2 loc σ1 (fun v2 σ2 => srcP k v1 v2 σ2 (forK T CS r mt b loc QS ES σ2)) (fun x σ1 => ES x loc σ1)) (fun x σ1 => ES x loc σ1)) :
    swpL T CS r (.for mt k e1 e2 b) loc σ QS ES t := by
  refine And.intro hr ?_
  refine Eq.mp (congrArg (fun F => ewp T CS r e1 loc σ F (fun x σ1 => ES x loc σ1)) ?_) h
  funext v1 σ1
  refine congrArg (fun F => ewp T CS r e2 loc σ1 F (fun x σ1 => ES x loc σ1)) ?_
  funext v2 σ2
  refine congrArg (srcP k v1 v2 σ2) ?_
  funext xs st
  unfold forK
  refine congrArg Exists ?_
  funext I
  refine congrArg (And _) (congrArg (And _) (congrArg (fun F => F ∧ _) ?_))
  refine forall_congr fun x => forall_congr fun rest => forall_congr fun l => forall_congr fun s => forall_congr fun _ => ?_
  refine congrArg (fun F => asgP T CS r mt x l s F (fun _ _ => False)) ?_
  funext l3 s3
  refine congrArg (fun F => swps T CS r b l3 s3 F ES) ?_
  funext o l s
  cases o <;> rfl
noncomputable def unr (T : Tab) (CS : CSpec) (r : Nat) (t : MT) (b : List MS) (QS : Out → Loc → Hp → Prop) (ES : MV → Loc → Hp → Prop) (st : Hp → Prop) : List MV → Loc → Hp → Prop
  | [], l, s => st s ∧ QS .next l s
  | x :: rest, l, s => st s ∧ asgP T CS r t x l s (fun l3 s3 => swps T CS r b l3 s3 (loopQ (unr T CS r t b QS ES st rest) QS) ES) (fun _ _ => False)
theorem forK_unr {t : MT} {b : List MS} {xs : List MV} {st : Hp → Prop} (h : unr T CS r t b QS ES st xs loc σ) : forK T CS r t b loc QS ES σ xs st :=
  ⟨unr T CS r t b QS ES st, h, fun rest l s q => by cases rest with | nil => exact q.1 | cons => exact q.1, fun x rest l s q => q.2, fun l s q => q.2⟩
theorem forK_ix {t : MT} {b : List MS} {xs : List MV} {st : Hp → Prop} (I : Nat → Loc → Hp → Prop) (h0 : I 0 loc σ) (hs : ∀ i l s, I i l s → st s)
    (hb : ∀ i x l s, xs[i]? = some x → I i l s → asgP T CS r t x l s (fun l3 s3 => swps T CS r b l3 s3 (loopQ (I (i + 1)) QS) ES) (fun _ _ => False)) (he : ∀ l s, I xs.length l s → QS .next l s) : forK T CS r t b loc QS ES σ xs st := by
  have key : ∀ i, i ≤ xs.length → (fun l s => xs.drop i = xs.drop (xs.length - (xs.drop i).length) ∧ I (xs.length - (xs.drop i).length) l s) = I i := fun i hi => by
    have e : xs.length - (xs.drop i).length = i := by rw [List.length_drop]; lia
    rw [e]
    funext l s
    simp
  refine ⟨fun rest l s => rest = xs.drop (xs.length - rest.length) ∧ I (xs.length - rest.length) l s, ⟨by simp, by simpa using h0⟩, fun rest l s ⟨_, q⟩ => hs _ l s q, fun x rest l s ⟨e, q⟩ => ?_, fun l s ⟨_, q⟩ => he l s (by simpa using q)⟩
  generalize hi : xs.length - (x :: rest).length = i at e q
  have lt : i < xs.length := by
    rcases Nat.lt_or_ge i xs.length with z | z
    · exact z
    · rw [List.drop_of_length_le z] at e; cases e
  have hx : xs[i]? = some x := by
    have := congrArg (·[0]?) e
    simpa using this.symm
  have hrest : rest = xs.drop (i + 1) := by
    have := congrArg List.tail e
    simpa using this
  have k := key (i + 1) lt
  rw [← hrest] at k
  show asgP T CS r t x l s (fun l3 s3 => swps T CS r b l3 s3 (loopQ (fun l s => rest = xs.drop (xs.length - rest.length) ∧ I (xs.length - rest.length) l s) QS) ES) (fun _ _ => False)
  rw [k]
  exact hb i x l s hx q
noncomputable def compK (T : Tab) (CS : CSpec) (r : Nat) (elt : ME) (ti : List Nat) (one : Bool) (conds : List ME) (loc : Loc) (Q : MV → Hp → Prop) (σ2 : Hp) (xs : List MV) (st : Hp → Prop) : Prop :=
  ∃ I : List MV → List MV → Hp → Prop, I xs [] σ2 ∧ (∀ rest acc σ', I rest acc σ' → st σ' ∧ acc.length ≤ lineL) ∧
        (∀ x rest acc σ', I (x :: rest) acc σ' → bindP ti one x loc fun loc' => condwp T CS r conds loc' σ' (fun t σ3 => if t then ewp T CS r elt loc' σ3 (fun y σ4 => I rest (acc ++ [y]) σ4) (fun _ _ => False) else I rest acc σ3)) ∧
        ∀ acc σ', I [] acc σ' → newP (.list acc) σ' Q
theorem comp_rule {elt e1 e2 : ME} {ti : List Nat} {one : Bool} {k : SrcK} {conds : List ME} {t : Tk Q E} (hr : r ≠ 0) (h : ewp T CS r e1 loc σ (fun v1 σ1 => ewp T CS r e2 loc σ1 (fun v2 σ2 => srcP k v1 v2 σ2 (compK T CS r elt ti one conds loc Q σ2)) E) E) :
    ewpL T CS r (.comp elt ti one k e1 e2 conds) loc σ Q E t := by
  exact And.intro hr h
noncomputable def unrC (T : Tab) (CS : CSpec) (r : Nat) (elt : ME) (ti : List Nat) (one : Bool) (conds : List ME) (loc : Loc) (Q : MV → Hp → Prop) (st : Hp → Prop) : List MV → List MV → Hp → Prop
  | [], acc, s => (st s ∧ acc.length ≤ lineL) ∧ newP (.list acc) s Q
  | x :: rest, acc, s => (st s ∧ acc.length ≤ lineL) ∧ bindP ti one x loc fun loc' => condwp T CS r conds loc' s (fun t s3 => if t then ewp T CS r elt loc' s3 (fun y s4 => unrC T CS r elt ti one conds loc Q st rest (acc ++ [y]) s4) (fun _ _ => False) else unrC T CS r elt ti one conds loc Q st rest acc s3)
theorem compK_unr {elt : ME} {ti : List Nat} {one : Bool} {conds : List ME} {xs : List MV} {st : Hp → Prop} (h : unrC T CS r elt ti one conds loc Q st xs [] σ) : compK T CS r elt ti one conds loc Q σ xs st :=
  ⟨unrC T CS r elt ti one conds loc Q st, h, fun rest acc s q => by cases rest with | nil => exact q.1 | cons => exact q.1, fun x rest acc s q => q.2, fun acc s q => q.2⟩
theorem compK_ix {elt : ME} {ti : List Nat} {one : Bool} {conds : List ME} {xs : List MV} {st : Hp → Prop} (I : Nat → List MV → Hp → Prop) (h0 : I 0 [] σ) (hs : ∀ i acc s, I i acc s → st s ∧ acc.length ≤ lineL)
    (hb : ∀ i x acc s, xs[i]? = some x → I i acc s → bindP ti one x loc fun loc' => condwp T CS r conds loc' s (fun t s3 => if t then ewp T CS r elt loc' s3 (fun y s4 => I (i + 1) (acc ++ [y]) s4) (fun _ _ => False) else I (i + 1) acc s3))
    (he : ∀ acc s, I xs.length acc s → newP (.list acc) s Q) : compK T CS r elt ti one conds loc Q σ xs st := by
  have key : ∀ i, i ≤ xs.length → (fun l s => xs.drop i = xs.drop (xs.length - (xs.drop i).length) ∧ I (xs.length - (xs.drop i).length) l s) = I i := fun i hi => by
    have e : xs.length - (xs.drop i).length = i := by rw [List.length_drop]; lia
    rw [e]
    funext l s
    simp
  refine ⟨fun rest l s => rest = xs.drop (xs.length - rest.length) ∧ I (xs.length - rest.length) l s, ⟨by simp, by simpa using h0⟩, fun rest l s ⟨_, q⟩ => hs _ l s q, fun x rest l s ⟨e, q⟩ => ?_, fun l s ⟨_, q⟩ => he l s (by simpa using q)⟩
  generalize hi : xs.length - (x :: rest).length = i at e q
  have lt : i < xs.length := by
    rcases Nat.lt_or_ge i xs.length with z | z
    · exact z
    · rw [List.drop_of_length_le z] at e; cases e
  have hx : xs[i]? = some x := by
    have := congrArg (·[0]?) e
    simpa using this.symm
  have hrest : rest = xs.drop (i + 1) := by
    have := congrArg List.tail e
    simpa using this
  have k := key (i + 1) lt
  rw [← hrest] at k
  have k1 : ∀ l s, (rest = xs.drop (xs.length - rest.length) ∧ I (xs.length - rest.length) l s) = I (i + 1) l s := fun l s => congrFun (congrFun k l) s
  show bindP ti one x loc fun loc' => condwp T CS r conds loc' s (fun t s3 => if t then ewp T CS r elt loc' s3 (fun y s4 => (rest = xs.drop (xs.length - rest.length) ∧ I (xs.length - rest.length) (l ++ [y]) s4)) (fun _ _ => False) else (rest = xs.drop (xs.length - rest.length) ∧ I (xs.length - rest.length) l s3))
  simp only [k1]
  exact hb i x l s hx q
theorem tryF_rule {a b : List MS} {t : TkS QS ES} (h : swps T CS r a loc σ (fun o loc1 σ1 => swps T CS r b loc1 σ1 (fun o' loc2 σ2 => match o' with | .next => QS o loc2 σ2 | _ => False) (fun _ _ _ => False))
      (fun x loc1 σ1 => swps T CS 0 b loc1 σ1 (fun o' loc2 σ2 => match o' with | .next => (∃ a C fs, x = .ref a ∧ σ2 a = some (.exc C fs)) ∧ ES x loc2 σ2 | _ => False) (fun _ _ _ => False))) : swpL T CS r (.tryF a b) loc σ QS ES t := by
  exact h
theorem tryX_rule {a b : List MS} {ty : ME} {i : Nat} {t : TkS QS ES} (h : swps T CS r a loc σ QS
      (fun x loc1 σ1 => ewp T CS 0 ty loc1 σ1 (fun tv σ2 => ∃ a C fs, x = .ref a ∧ σ2 a = some (.exc C fs) ∧ excHit T tv C = true ∧ i < loc1.length ∧
        swps T CS 0 b (loc1.set i (some x)) σ2 (fun o loc2 σ3 => QS o (loc2.set i none) σ3) (fun _ _ _ => False)) (fun _ _ => False))) : swpL T CS r (.tryX a ty i b) loc σ QS ES t := by
  exact h
end
end Mine
end
section
open PySem PySem.W PyProof.Rows PySem.Builtin.ObjectAttr
set_option maxRecDepth 20000
namespace Mine
structure FnT where
  f : Addr
  ps : List Str
  ds : List MV
  n : Nat
  sc : Sc
  ms : List MS
noncomputable def dfl1 (sy : List Str) (d : MV) (v : Value) : Bool := match d with
  | .int i => match v with
    | .int j _ => i == j
    | _ => false
  | .sym n => match v with
    | .str x _ => sy[n]? == some x
    | _ => false
  | _ => false
noncomputable def dsRel (sy : List Str) : List MV → List Value → Bool
  | [], vs => vs.isEmpty
  | d :: r, vs => match vs with
    | [] => false
    | v :: r' => dfl1 sy d v && dsRel sy r r'
theorem dfl1_of {sy : List Str} {h : Heap} {d : MV} {v : Value} (q : dfl1 sy d v = true) : VRel sy h d v := by
  cases d with
  | int i => cases v with
    | int j t => obtain rfl := beq_iff_eq.mp (show (i == j) = true from q); exact .mk_int _ _
    | _ => exact (Bool.false_ne_true q).elim
  | sym n => cases v with
    | str x t => exact .mk_sym _ (beq_iff_eq.mp (show (sy[n]? == some x) = true from q))
    | _ => exact (Bool.false_ne_true q).elim
  | _ => exact (Bool.false_ne_true q).elim
theorem dsRel_of {sy : List Str} {h : Heap} : ∀ {ds : List MV} {vs : List Value}, dsRel sy ds vs = true → VRels sy h ds vs
  | [], vs, q => by obtain rfl := List.isEmpty_iff.mp q; exact .nil
  | d :: r, [], q => (Bool.false_ne_true q).elim
  | d :: r, v :: r', q => .cons (dfl1_of (Bool.and_eq_true_iff.mp q).1) (dsRel_of (Bool.and_eq_true_iff.mp q).2)
noncomputable def psB (p : Arguments) (ps : List Str) : Bool := p.posonlyargs.isEmpty && p.args.map (·.arg) == ps && p.vararg.isNone && p.kwonlyargs.isEmpty && p.kwarg.isNone
theorem psB_of {fd : FuncData} {ps : List Str} (q : psB fd.params ps = true) : PsOk fd ps := by
  simp only [psB, Bool.and_eq_true, List.isEmpty_iff, beq_iff_eq, Option.isNone_iff_eq_none] at q
  obtain ⟨⟨⟨⟨a, b⟩, c⟩, d⟩, e⟩ := q
  exact ⟨a, b, c, d, e⟩
noncomputable def seqB (d : Data) (p : Array Value → Bool) : Bool := match d with
  | .seq vs _ => p vs
  | _ => false
noncomputable def dflV (K : Frag) (sy : List Str) (ds : List MV) (v : Value) : Bool := match v with
  | .none => ds.isEmpty
  | .ref T => (K.lookup T).any fun o => seqB o.data fun vs => dsRel sy ds vs.toList
  | _ => false
noncomputable def dflB (K : Frag) (sy : List Str) (f : Addr) (ds : List MV) : Bool := dflV K sy ds (fdOf K f).defaults
set_option tactic.hygienic true in
theorem dflB_of {K : Frag} {sy : List Str} {f : Addr} {ds : List MV} (q : dflB K sy f ds = true) {h : Heap} (X : K.In h) :
    ∃ us, VRels sy h ds us ∧ (((fdOf K f).defaults = .none ∧ us = []) ∨ ∃ T o n, (fdOf K f).defaults = .ref T ∧ h.get? T = some o ∧ o.data = .seq us.toArray n) := by
  unfold dflB at q
  generalize (fdOf K f).defaults = v at q ⊢
  cases v with
  | none => obtain rfl := List.isEmpty_iff.mp q; exact ⟨[], .nil, .inl ⟨rfl, rfl⟩⟩
  | ref T =>
    obtain ⟨⟨oc, od, d, osl⟩, ho, q⟩ := any_some q
    cases d with
    | seq vs n => exact ⟨vs.toList, dsRel_of q, .inr ⟨T, _, n, rfl, X _ _ ho, rfl⟩⟩
    | _ => exact (Bool.false_ne_true q).elim
  | _ => exact (Bool.false_ne_true q).elim
noncomputable def FnT.ok (K : Frag) (sy : List Str) (x : FnT) : Bool := fnChk K sy x.f x.ps x.sc x.ms && psB (fdOf K x.f).params x.ps && dflB K sy x.f x.ds && decide (x.ds.length ≤ x.ps.length)
theorem drop_ar {a d p : Nat} (h1 : a ≤ p) (h2 : p ≤ a + d) (h3 : d ≤ p) : a + (d - (a + d - p)) = p := by lia
section
variable {T : Tab} {cx : Cx T} {r : Nat} {σ : Hp}
theorem FnT.code (x : FnT) (c : x.ok cx.K T.sym = true) {args : List MV} (h1 : args.length ≤ x.ps.length) (h2 : x.ps.length ≤ args.length + x.ds.length) {Q E : MV → Hp → Prop}
    (q : swps T (CSf cx) r x.ms ((args ++ x.ds.drop (args.length + x.ds.length - x.ps.length)).map some ++ List.replicate x.n none) σ (retQ Q) (fun x _ σ1 => E x σ1)) : CodeSpec cx (r + 1) (.ref x.f) args σ Q E := by
  unfold FnT.ok at c
  simp only [Bool.and_eq_true, decide_eq_true_eq] at c
  obtain ⟨⟨⟨c1, c2⟩, c3⟩, c4⟩ := c
  have nd : x.ps.Nodup := by
    unfold fnChk scOk at c1
    simp only [Bool.and_eq_true, decide_eq_true_eq] at c1
    exact c1.1.2.1.1.1.1.1
  refine fn_intro c1 (fun h t vs X rv => ?_) q
  obtain ⟨us, ru, hd⟩ := dflB_of c3 X
  have l1 := rv.length
  have l2 := ru.length
  refine ⟨vs ++ us.drop (args.length + x.ds.length - x.ps.length), ?_, rv.append (ru.drop _), ?_⟩
  · rw [List.length_append, List.length_drop, l1, l2]; exact drop_ar h1 h2 c4
  · have := bind_gen (s := cx.mk' h t) (fd := fdOf cx.K x.f) (ps := x.ps) (vs := vs) (ds := us) (psB_of c2) nd hd (l1 ▸ h1) (by rw [l1, l2]; exact h2) (l2 ▸ c4)
    rwa [l1, l2] at this
end
/-! the context's own facts, as one Bool -/
noncomputable def isRefV (v : Value) : Bool := match v with
  | .ref _ => true
  | _ => false
noncomputable def excMro (l : List Value) : Bool := l.dropWhile isRefV == [.type "Exception", .type "BaseException", .type "object"]
set_option tactic.hygienic true in
theorem excMro_of {self : Value} : ∀ {l : List Value}, excMro l = true → refuseLoop self "__setattr__" l = pure ()
  | [], q => by cases q
  | v :: r, q => by
    cases z : isRefV v with
    | false =>
      have e : (v :: r) = [.type "Exception", .type "BaseException", .type "object"] := by
        have q' := beq_iff_eq.mp q
        rwa [List.dropWhile_cons_of_neg (by rw [z]; exact Bool.false_ne_true)] at q'
      rw [e]
      kernel_rfl
    | true =>
      cases v with
      | ref a => rw [refuseLoop_ref]; exact excMro_of (l := r) q
      | _ => exact (Bool.false_ne_true z).elim
noncomputable def plB (T : Tab) (K : Frag) (C : Addr) (n : Nat) : Bool := (T.sym[n]?).any fun x =>
  plainGet K C x && hasDictIn K C && (findIn K (.ref C) x).any (noGet K) && findIn K (.ref C) "__setattr__" == some (some (.builtin "object.__setattr__")) && takerIn K C x == some none && plainOver K C
noncomputable def meB (T : Tab) (K : Frag) (C : Addr) (n : Nat) (f : Addr) : Bool := (T.sym[n]?).any fun x =>
  plainGet K C x && findIn K (.ref C) x == some (some (.ref f)) && isFn K (.ref f) && keepIn K (.ref f)
noncomputable def valB (a : CFound) (f : Addr) : Bool := match a with
  | .val v => v == .ref f
  | _ => false
noncomputable def caB (T : Tab) (K : Frag) (C : Addr) (n : Nat) (f : Addr) : Bool := (T.sym[n]?).any fun x =>
  specialIn K (.ref C) "__getattribute__" == some (some (.builtin "type.__getattribute__")) && readsIn K C (.type "type") && (findCls K (.ref C) (.type "type") x).any (valB · f) && keepIn K (.ref f)
noncomputable def exB (T : Tab) (K : Frag) (C : Addr) (n : Nat) : Bool := (T.sym[n]?).any fun x => (clsIn K C).any fun cd =>
  cd.hasDict && mroIn K C (.type "object") == some true && excMro cd.mro && findIn K (.ref C) "__setattr__" == some (some (.builtin "object.__setattr__")) && takerIn K C x == some none &&
    findIn K (.ref C) "__getattribute__" == some (some (.builtin "BaseException.__getattribute__")) && findIn K (.ref C) x == some none && subIn K (.ref C) (.type "BaseException") == some true && (findIn K (.ref C) "__getattr__").isSome
noncomputable def cxB (T : Tab) (K : Frag) : Bool :=
  T.subs.all (fun x => exmOne K (.ref x.1.1) (.ref x.1.2) == some x.2) && T.plain.all (fun x => x.2.all fun n => plB T K x.1 n) && T.meths.all (fun x => meB T K x.1.1 x.1.2 x.2) &&
  T.clsAttrs.all (fun x => caB T K x.1.1 x.1.2 x.2) && T.eplain.all (fun x => x.2.all fun n => exB T K x.1 n)
set_option tactic.hygienic true in
theorem mem_of_lookup {α β : Type} [BEq α] [LawfulBEq α] {l : List (α × β)} {a : α} {b : β} (h : l.lookup a = some b) : (a, b) ∈ l := by
  induction l with
  | nil => cases h
  | cons x r ih =>
    obtain ⟨k, v⟩ := x
    rw [List.lookup_cons] at h
    cases q : a == k with
    | true => rw [q] at h; cases h; rw [beq_iff_eq.mp q]; exact .head _
    | false => rw [q] at h; exact .tail _ (ih h)
structure CxPre (T : Tab) where
  prog : Program
  w : World
  K : Frag
  base : Heap
  p : Program
  loose : List Str
  mg : Str → Option Value
  mb : Str → Option Value
  os : OsState
  g : Array GenState
  d : Drawn
  hK : K.In base
  hT : TopRead p loose mg mb base
noncomputable def symsOk (sy : List Str) : Bool := decide sy.Nodup && sy.all (fun x => decide (x.length ≤ 1000) && PyData.strOk x) && sy[0]? == some (Str.ofString "append") && sy[1]? == some (Str.ofString "pop") && sy[2]? == some (Str.ofString "reverse") && sy[3]? == some (Str.ofString "get")
theorem symsOk_of {sy : List Str} (hs : symsOk sy = true) : sy.Nodup ∧ (∀ x ∈ sy, x.length ≤ 1000 ∧ PyData.strOk x = true) ∧ sy[0]? = some (Str.ofString "append") ∧ sy[1]? = some (Str.ofString "pop") ∧ sy[2]? = some (Str.ofString "reverse") ∧ sy[3]? = some (Str.ofString "get") := by
  unfold symsOk at hs
  simp only [Bool.and_eq_true, decide_eq_true_eq, beq_iff_eq, List.all_eq_true] at hs
  obtain ⟨⟨⟨⟨⟨s1, s2⟩, s3⟩, s4⟩, s5⟩, s6⟩ := hs
  exact ⟨s1, s2, s3, s4, s5, s6⟩
section
variable {T : Tab} {K : Frag}
theorem cxB_subs (hc : cxB T K = true) : ∀ C D b, T.subs.lookup (C, D) = some b → exmOne K (.ref C) (.ref D) = some b := by
  simp only [cxB, Bool.and_eq_true, List.all_eq_true, beq_iff_eq] at hc
  exact fun C D b h => hc.1.1.1.1 ((C, D), b) (mem_of_lookup h)
set_option tactic.hygienic true in
theorem cxB_plain (hc : cxB T K = true) : ∀ C n, T.okAttr C n = true → ∃ x, T.sym[n]? = some x ∧ plainGet K C x = true ∧ hasDictIn K C = true ∧ (∃ q, findIn K (.ref C) x = some q ∧ noGet K q = true) ∧
    findIn K (.ref C) "__setattr__" = some (some (.builtin "object.__setattr__")) ∧ takerIn K C x = some none ∧ plainOver K C = true := by
  simp only [cxB, Bool.and_eq_true, List.all_eq_true] at hc
  intro C n h
  obtain ⟨l, e, h⟩ := any_some h
  obtain ⟨s, es, q⟩ := any_some (hc.1.1.1.2 (C, l) (mem_of_lookup e) n (List.contains_iff_mem.mp h))
  simp only [Bool.and_eq_true, beq_iff_eq] at q
  obtain ⟨⟨⟨⟨⟨a1, a2⟩, a3⟩, a4⟩, a5⟩, a6⟩ := q
  exact ⟨s, es, a1, a2, any_some a3, a4, a5, a6⟩
set_option tactic.hygienic true in
theorem cxB_meths (hc : cxB T K = true) : ∀ C n f, T.meths.lookup (C, n) = some f → ∃ x, T.sym[n]? = some x ∧ plainGet K C x = true ∧ findIn K (.ref C) x = some (some (.ref f)) ∧ isFn K (.ref f) = true ∧ keepIn K (.ref f) = true := by
  simp only [cxB, Bool.and_eq_true, List.all_eq_true] at hc
  intro C n f h
  obtain ⟨s, es, q⟩ := any_some (hc.1.1.2 ((C, n), f) (mem_of_lookup h))
  simp only [Bool.and_eq_true, beq_iff_eq] at q
  obtain ⟨⟨⟨a1, a2⟩, a3⟩, a4⟩ := q
  exact ⟨s, es, a1, a2, a3, a4⟩
set_option tactic.hygienic true in
theorem cxB_cls (hc : cxB T K = true) : ∀ C n f, T.clsAttrs.lookup (C, n) = some f → ∃ x, T.sym[n]? = some x ∧ specialIn K (.ref C) "__getattribute__" = some (some (.builtin "type.__getattribute__")) ∧ readsIn K C (.type "type") = true ∧
    findCls K (.ref C) (.type "type") x = some (.val (.ref f)) ∧ keepIn K (.ref f) = true := by
  simp only [cxB, Bool.and_eq_true, List.all_eq_true] at hc
  intro C n f h
  obtain ⟨s, es, q⟩ := any_some (hc.1.2 ((C, n), f) (mem_of_lookup h))
  simp only [Bool.and_eq_true, beq_iff_eq] at q
  obtain ⟨⟨⟨a1, a2⟩, a3⟩, a4⟩ := q
  refine ⟨s, es, a1, a2, ?_, a4⟩
  obtain ⟨g, e, a3⟩ := any_some a3
  cases g with
  | val v => rw [e, beq_iff_eq.mp (show (v == .ref f) = true from a3)]
  | _ => exact (Bool.false_ne_true a3).elim
set_option tactic.hygienic true in
theorem cxB_excs (hc : cxB T K = true) : ∀ C n, T.okExc C n = true → ∃ x cd, T.sym[n]? = some x ∧ clsIn K C = some cd ∧ cd.hasDict = true ∧ mroIn K C (.type "object") = some true ∧ (∀ self, refuseLoop self "__setattr__" cd.mro = pure ()) ∧
    findIn K (.ref C) "__setattr__" = some (some (.builtin "object.__setattr__")) ∧ takerIn K C x = some none ∧ findIn K (.ref C) "__getattribute__" = some (some (.builtin "BaseException.__getattribute__")) ∧
    findIn K (.ref C) x = some none ∧ subIn K (.ref C) (.type "BaseException") = some true ∧ ∃ q, findIn K (.ref C) "__getattr__" = some q := by
  simp only [cxB, Bool.and_eq_true, List.all_eq_true] at hc
  intro C n h
  obtain ⟨l, e, h⟩ := any_some h
  obtain ⟨s, es, q⟩ := any_some (hc.2 (C, l) (mem_of_lookup e) n (List.contains_iff_mem.mp h))
  obtain ⟨cd, ec, q⟩ := any_some q
  simp only [Bool.and_eq_true, beq_iff_eq] at q
  obtain ⟨⟨⟨⟨⟨⟨⟨⟨a1, a2⟩, a3⟩, a4⟩, a5⟩, a6⟩, a7⟩, a8⟩, a9⟩ := q
  exact ⟨s, cd, es, ec, a1, a2, fun self => excMro_of a3, a4, a5, a6, a7, a8, Option.isSome_iff_exists.mp a9⟩
end
noncomputable def CxPre.mk' {T : Tab} (x : CxPre T) (hs : symsOk T.sym = true) (hc : cxB T x.K = true) : Cx T :=
  { prog := x.prog, w := x.w, K := x.K, base := x.base, p := x.p, loose := x.loose, mg := x.mg, mb := x.mb, os := x.os, g := x.g, d := x.d, hK := x.hK, hT := x.hT,
    nodup := (symsOk_of hs).1, short := (symsOk_of hs).2.1, s0 := (symsOk_of hs).2.2.1, s1 := (symsOk_of hs).2.2.2.1, s2 := (symsOk_of hs).2.2.2.2.1, s3 := (symsOk_of hs).2.2.2.2.2,
    subs := cxB_subs hc, plain := cxB_plain hc, meths := cxB_meths hc, clsAttrs := cxB_cls hc, excs := cxB_excs hc }
noncomputable def instB (K : Frag) (C fI : Addr) : Bool := makesIn K C && findIn K (.ref C) "__init__" == some (some (.ref fI)) && typeIn K (.ref fI) == some (.type "function")
end Mine
end
section
open PySem PySem.W PyProof.Rows
namespace Mine
section
variable {x0 x1 x2 x3 x4 x5 x6 : MV} {r : List MV} {σ : Hp} {Q : MV → Hp → Prop} {i j : Int} {B : Bool → Prop} {n m : Nat} {a b : Addr} {xs ys : List MV}
theorem it0 : itemP (.tup (x0 :: r)) (.int 0) σ Q = Q x0 σ := rfl
theorem it1 : itemP (.tup (x0 :: x1 :: r)) (.int 1) σ Q = Q x1 σ := rfl
theorem it2 : itemP (.tup (x0 :: x1 :: x2 :: r)) (.int 2) σ Q = Q x2 σ := rfl
theorem it3 : itemP (.tup (x0 :: x1 :: x2 :: x3 :: r)) (.int 3) σ Q = Q x3 σ := rfl
theorem it4 : itemP (.tup (x0 :: x1 :: x2 :: x3 :: x4 :: r)) (.int 4) σ Q = Q x4 σ := rfl
theorem it5 : itemP (.tup (x0 :: x1 :: x2 :: x3 :: x4 :: x5 :: r)) (.int 5) σ Q = Q x5 σ := rfl
theorem ite_bt {p q : Prop} : (if true = true then p else q) = p := rfl
theorem ite_bf {p q : Prop} : (if false = true then p else q) = q := rfl
theorem ite_tt {p q : Prop} : (if (true == true) = true then p else q) = p := rfl
theorem ite_tf {p q : Prop} : (if (true == false) = true then p else q) = q := rfl
theorem ite_ft {p q : Prop} : (if (false == true) = true then p else q) = q := rfl
theorem ite_ff {p q : Prop} : (if (false == false) = true then p else q) = p := rfl
theorem not_t : (!true) = false := rfl
theorem not_f : (!false) = true := rfl
theorem bin_add : binP .Add (.int i) (.int j) σ Q = Q (.int (i + j)) σ := rfl
theorem bin_sub : binP .Sub (.int i) (.int j) σ Q = Q (.int (i - j)) σ := rfl
theorem bin_mul : binP .Mult (.int i) (.int j) σ Q = ((i.natAbs < 2 ^ 64 ∧ j.natAbs < 2 ^ 64) ∧ Q (.int (i * j)) σ) := rfl
theorem bin_div : binP .FloorDiv (.int i) (.int j) σ Q = ((j ≠ 0 ∧ j.natAbs < 1073741824) ∧ Q (.int (i.fdiv j)) σ) := rfl
theorem bin_mod : binP .Mod (.int i) (.int j) σ Q = (j ≠ 0 ∧ Q (.int (i.fmod j)) σ) := rfl
theorem bin_pow : binP .Pow (.int i) (.int j) σ Q = ((i.natAbs < 2 ^ 64 ∧ 0 ≤ j ∧ j ≤ 1000000) ∧ Q (.int (i ^ j.toNat)) σ) := rfl
theorem bin_shl : binP .LShift (.int i) (.int j) σ Q = ((i.natAbs < 2 ^ 64 ∧ 0 ≤ j ∧ j ≤ 1000000) ∧ Q (.int (i * 2 ^ j.toNat)) σ) := rfl
theorem bin_shr : binP .RShift (.int i) (.int j) σ Q = (0 ≤ j ∧ Q (.int (i.fdiv (2 ^ j.toNat))) σ) := rfl
theorem bin_and : binP .BitAnd (.int i) (.int j) σ Q = Q (.int (Builtin.bitAnd i j)) σ := rfl
theorem bin_or : binP .BitOr (.int i) (.int j) σ Q = Q (.int (Builtin.bitOr i j)) σ := rfl
theorem bin_xor : binP .BitXor (.int i) (.int j) σ Q = Q (.int (Builtin.bitXor i j)) σ := rfl
theorem bin_tup : binP .Add (.tup xs) (.tup ys) σ Q = ((xs ≠ [] ∧ ys ≠ [] ∧ xs.length + ys.length ≤ lineL) ∧ Q (.tup (xs ++ ys)) σ) := rfl
theorem bin_list : binP .Add (.ref a) (.ref b) σ Q = ∃ xs ys, σ a = some (.list xs) ∧ σ b = some (.list ys) ∧ xs.length + ys.length ≤ lineL ∧ newP (.list (xs ++ ys)) σ Q := rfl
theorem bin_rep : binP .Mult (.ref a) (.int i) σ Q = ∃ xs, σ a = some (.list xs) ∧ 0 ≤ i ∧ i < 2 ^ 62 ∧ xs.length * i.toNat ≤ 256 ∧ newP (.list (List.replicate i.toNat xs).flatten) σ Q := rfl
theorem bin_str {s : Str} : binP .Add (.sym n) (.txt s) σ Q = (s.length ≤ 1000 ∧ ∀ s', Q (.txt s') σ) := rfl
theorem cmp_eq : cmpP .Eq (.int i) (.int j) σ B = B (decide (i = j)) := rfl
theorem cmp_ne : cmpP .NotEq (.int i) (.int j) σ B = B (!decide (i = j)) := rfl
theorem cmp_lt : cmpP .Lt (.int i) (.int j) σ B = B (decide (i < j)) := rfl
theorem cmp_le : cmpP .LtE (.int i) (.int j) σ B = B (decide (i ≤ j)) := rfl
theorem cmp_gt : cmpP .Gt (.int i) (.int j) σ B = B (decide (j < i)) := rfl
theorem cmp_ge : cmpP .GtE (.int i) (.int j) σ B = B (decide (j ≤ i)) := rfl
theorem cmp_sy : cmpP .Eq (.sym n) (.sym m) σ B = B (n == m) := rfl
theorem cmp_sn : cmpP .NotEq (.sym n) (.sym m) σ B = B (!(n == m)) := rfl
theorem is_n : cmpP .Is .none .none σ B = B true := rfl
theorem is_i : cmpP .Is (.int i) .none σ B = B false := rfl
theorem is_b {b : Bool} : cmpP .Is (.bool b) .none σ B = B false := rfl
theorem is_s : cmpP .Is (.sym n) .none σ B = B false := rfl
theorem is_t : cmpP .Is (.tup xs) .none σ B = B false := rfl
theorem is_r : cmpP .Is (.ref a) .none σ B = B false := rfl
theorem no_n : cmpP .IsNot .none .none σ B = B false := rfl
theorem no_i : cmpP .IsNot (.int i) .none σ B = B true := rfl
theorem no_b {b : Bool} : cmpP .IsNot (.bool b) .none σ B = B true := rfl
theorem no_s : cmpP .IsNot (.sym n) .none σ B = B true := rfl
theorem no_t : cmpP .IsNot (.tup xs) .none σ B = B true := rfl
theorem no_r : cmpP .IsNot (.ref a) .none σ B = B true := rfl
theorem cmp_tt : cmpP .Eq (.tup xs) (.tup ys) σ B = (((MV.tup xs).isData 8 = true ∧ (MV.tup ys).isData 8 = true) ∧ B ((MV.tup xs).beq (.tup ys))) := rfl
theorem cmp_nt : cmpP .NotEq (.tup xs) (.tup ys) σ B = (((MV.tup xs).isData 8 = true ∧ (MV.tup ys).isData 8 = true) ∧ B (!(MV.tup xs).beq (.tup ys))) := rfl
theorem cmp_it : cmpP .In x0 (.tup xs) σ B = ((x0.isData 8 = true ∧ isDatas xs = true) ∧ B (xs.any fun x => x.beq x0)) := by cases x0 <;> rfl
theorem cmp_ll : cmpP .Eq (.ref a) (.ref b) σ B = ∃ xs ys, σ a = some (.list xs) ∧ σ b = some (.list ys) ∧ (isDatas xs = true ∧ isDatas ys = true) ∧ B (beqs xs ys) := rfl
theorem cmp_nl : cmpP .NotEq (.ref a) (.ref b) σ B = ∃ xs ys, σ a = some (.list xs) ∧ σ b = some (.list ys) ∧ (isDatas xs = true ∧ isDatas ys = true) ∧ B (!beqs xs ys) := rfl
theorem tr_b {b : Bool} : truthP (.bool b) B = B b := rfl
theorem tr_i : truthP (.int i) B = B (decide (i ≠ 0)) := rfl
theorem tr_n : truthP .none B = B false := rfl
end
structure Rest (a b : List MS) : Prop where
  h : a = b
section
variable {T : Tab} {CS : CSpec} {r : Nat} {loc : Loc} {σ : Hp} {QS : Out → Loc → Hp → Prop} {ES : MV → Loc → Hp → Prop}
theorem s_stepH {ms : List MS} {s : MS} {ss : List MS} (h : ms = s :: ss) (q : ∀ rest, Rest rest ss → swp T CS r s loc σ (seqQ (fun l σ1 => swps T CS r rest l σ1 QS ES) QS) ES) : swps T CS r ms loc σ QS ES := s_step h (q ss ⟨rfl⟩)
theorem s_stepR {ms ms0 : List MS} {s : MS} {ss : List MS} (R : Rest ms ms0) (h : ms0 = s :: ss) (q : ∀ rest, Rest rest ss → swp T CS r s loc σ (seqQ (fun l σ1 => swps T CS r rest l σ1 QS ES) QS) ES) : swps T CS r ms loc σ QS ES := s_step (R.h.trans h) (q ss ⟨rfl⟩)
theorem s_lastR {ms ms0 : List MS} {s : MS} (R : Rest ms ms0) (h : ms0 = [s]) (q : swp T CS r s loc σ QS ES) : swps T CS r ms loc σ QS ES := s_last (R.h.trans h) q
end
section
variable {T : Tab} {σ : Hp} {a C : Addr} {n : Nat} {fs : List (Nat × MV)} {v : MV} {Q : MV → Prop} {K : Hp → Prop} {W : Value → List MV → Prop}
theorem attr_i (h : σ a = some (.inst C fs)) (ok : T.okAttr C n = true) (l : fs.lookup n = some v) (q : Q v) : attrP T (.ref a) n σ Q := ⟨a, C, fs, v, rfl, l, q, .inl ⟨h, ok⟩⟩
theorem attr_e (h : σ a = some (.exc C fs)) (ok : T.okExc C n = true) (l : fs.lookup n = some v) (q : Q v) : attrP T (.ref a) n σ Q := ⟨a, C, fs, v, rfl, l, q, .inr ⟨h, ok⟩⟩
theorem seta_i (h : σ a = some (.inst C fs)) (ok : T.okAttr C n = true) (l : fs.length ≤ 900) (q : K (σ.put a (.inst C (putN n v fs)))) : setAttrP T (.ref a) n v σ K := ⟨a, C, fs, rfl, l, .inl ⟨h, ok, q⟩⟩
theorem seta_e (h : σ a = some (.exc C fs)) (ok : T.okExc C n = true) (l : fs.length ≤ 900) (q : K (σ.put a (.exc C (putN n v fs)))) : setAttrP T (.ref a) n v σ K := ⟨a, C, fs, rfl, l, .inr ⟨h, ok, q⟩⟩
theorem meth_i {f : Addr} (h : σ a = some (.inst C fs)) (e : T.meths.lookup (C, n) = some f) (l : fs.lookup n = none) (q : W (.ref f) [.ref a]) : methP T (.ref a) n σ W := .inr ⟨a, rfl, .inl ⟨C, fs, f, h, l, e, q⟩⟩
theorem meth_app {xs : List MV} (h : σ a = some (.list xs)) (q : W (.builtin "list.append") [.ref a]) : methP T (.ref a) 0 σ W := .inr ⟨a, rfl, .inr (.inl ⟨xs, h, .inl ⟨rfl, q⟩⟩)⟩
theorem meth_pop {xs : List MV} (h : σ a = some (.list xs)) (q : W (.builtin "list.pop") [.ref a]) : methP T (.ref a) 1 σ W := .inr ⟨a, rfl, .inr (.inl ⟨xs, h, .inr (.inl ⟨rfl, q⟩)⟩)⟩
theorem meth_rev {xs : List MV} (h : σ a = some (.list xs)) (q : W (.builtin "list.reverse") [.ref a]) : methP T (.ref a) 2 σ W := .inr ⟨a, rfl, .inr (.inl ⟨xs, h, .inr (.inr ⟨rfl, q⟩)⟩)⟩
theorem meth_get {kvs : List (Int × MV)} (h : σ a = some (.dI kvs)) (q : W (.builtin "dict.get") [.ref a]) : methP T (.ref a) 3 σ W := .inr ⟨a, rfl, .inr (.inr ⟨kvs, h, rfl, q⟩)⟩
theorem meth_c {f : Addr} (e : T.clsAttrs.lookup (C, n) = some f) (q : W (.ref f) []) : methP T (.con (.ref C)) n σ W := .inl ⟨C, f, rfl, e, q⟩
theorem sl_to {xs : List MV} {k : Int} {Q : MV → Hp → Prop} (h : σ a = some (.list xs)) (l : xs.length ≤ lineL) (k0 : 0 ≤ k) (q : newP (.list (xs.take k.toNat)) σ Q) : sliceP (.ref a) .none (.int k) σ Q :=
  .inr ⟨a, xs, rfl, l, .inl h, .inl ⟨k, rfl, rfl, k0, q⟩⟩
theorem sl_frz {ns : List Int} {k : Int} {Q : MV → Hp → Prop} (h : σ a = some (.frz ns)) (l : ns.length ≤ lineL) (k0 : 0 ≤ k) (q : newP (.list ((ns.map MV.int).take k.toNat)) σ Q) : sliceP (.ref a) .none (.int k) σ Q :=
  .inr ⟨a, _, rfl, by rw [List.length_map]; exact l, .inr ⟨ns, h, rfl⟩, .inl ⟨k, rfl, rfl, k0, q⟩⟩
theorem item_l {xs : List MV} {k : Int} {Q : MV → Hp → Prop} (j : Nat) (h : σ a = some (.list xs)) (hk : k = j) (hj : j ≤ 1000000) (e : xs[j]? = some v) (q : Q v σ) : itemP (.ref a) (.int k) σ Q := by
  subst hk
  have hl : j < xs.length := (List.getElem?_eq_some_iff.mp e).1
  refine .inl ⟨_, xs, j, v, rfl, ⟨by lia, by lia⟩, h, ?_, e, q⟩
  unfold seqIx; rw [if_pos (by lia), if_pos (by lia)]; simp
theorem item_last {xs : List MV} {Q : MV → Hp → Prop} (h : σ a = some (.list (xs ++ [v]))) (q : Q v σ) : itemP (.ref a) (.int (-1)) σ Q := by
  refine .inl ⟨_, xs ++ [v], xs.length, v, rfl, ⟨by decide, by decide⟩, h, ?_, by simp, q⟩
  unfold seqIx
  rw [if_neg (by decide), if_pos (by simp; lia)]
  simp; lia
theorem seti_l {xs : List MV} {k : Int} {K : Hp → Prop} (j : Nat) (h : σ a = some (.list xs)) (hk : k = j) (hj : j ≤ 1000000) (hl : j < xs.length) (q : K (σ.put a (.list (xs.set j v)))) : setItemP (.ref a) (.int k) v σ K := by
  subst hk
  exact ⟨a, rfl, .inl ⟨_, xs, rfl, h, by lia, by lia, by lia, q⟩⟩
theorem seti_d {kvs : List (Int × MV)} {k : Int} {K : Hp → Prop} (h : σ a = some (.dI kvs)) (hl : kvs.length ≤ 1000) (q : K (σ.put a (.dI (putI k v kvs)))) : setItemP (.ref a) (.int k) v σ K :=
  ⟨a, rfl, .inr (.inl ⟨k, kvs, rfl, h, hl, q⟩)⟩
theorem seti_s {kvs : List (Nat × MV)} {K : Hp → Prop} (h : σ a = some (.dS kvs)) (hl : kvs.length ≤ 1000) (q : K (σ.put a (.dS (putN n v kvs)))) : setItemP (.ref a) (.sym n) v σ K :=
  ⟨a, rfl, .inr (.inr ⟨n, kvs, rfl, h, hl, q⟩)⟩
theorem ne_of {o o' : MObj} {b : Addr} (h : σ a = some o) (h' : σ b = some o') (n : o ≠ o') : a ≠ b := fun e => n (by rw [e, h'] at h; exact (Option.some.inj h).symm)
theorem ne_new {o : MObj} {b : Addr} (h : σ b = some o) (n : σ a = none) : b ≠ a := fun e => by rw [e, n] at h; cases h
end
end Mine
end
section
open PySem PySem.W PyProof.Rows
set_option maxRecDepth 100000
namespace Mine
namespace A
noncomputable def f__wall : Addr := 21
noncomputable def f_GateloomError___init__ : Addr := 36
noncomputable def c_GateloomError : Addr := 39
noncomputable def c_DesignError : Addr := 52
noncomputable def c_LimitReached : Addr := 64
noncomputable def f_mask : Addr := 73
noncomputable def f_vec : Addr := 81
noncomputable def f_zeros : Addr := 88
noncomputable def f_all_x : Addr := 95
noncomputable def f_all_z : Addr := 102
noncomputable def f_from_int : Addr := 109
noncomputable def f_is_known : Addr := 116
noncomputable def f_to_int : Addr := 123
noncomputable def f_code : Addr := 130
noncomputable def f_slice_vec : Addr := 137
noncomputable def f_put_slice : Addr := 144
noncomputable def f_concat : Addr := 151
noncomputable def f_extend : Addr := 158
noncomputable def f_z_to_x : Addr := 165
noncomputable def f_truth : Addr := 172
noncomputable def f_add : Addr := 179
noncomputable def f_sub : Addr := 186
noncomputable def f_mul : Addr := 193
noncomputable def f_neg : Addr := 200
noncomputable def f_quotient : Addr := 207
noncomputable def f_div : Addr := 214
noncomputable def f_mod : Addr := 221
noncomputable def f_raise_whole : Addr := 228
noncomputable def f_power : Addr := 235
noncomputable def f_shift_left : Addr := 242
noncomputable def f_shift_right : Addr := 249
noncomputable def f_shift_arith : Addr := 256
noncomputable def f_ordered : Addr := 263
noncomputable def f_less : Addr := 270
noncomputable def f_less_equal : Addr := 277
noncomputable def f_greater : Addr := 284
noncomputable def f_greater_equal : Addr := 291
noncomputable def f_one_bit : Addr := 298
noncomputable def f_bit_not : Addr := 305
noncomputable def f_bit_and : Addr := 312
noncomputable def f_bit_or : Addr := 319
noncomputable def f_bit_xor : Addr := 326
noncomputable def f_bit_xnor : Addr := 333
noncomputable def f_reduce_and : Addr := 340
noncomputable def f_reduce_nand : Addr := 347
noncomputable def f_reduce_or : Addr := 354
noncomputable def f_reduce_nor : Addr := 361
noncomputable def f_reduce_xor : Addr := 368
noncomputable def f_reduce_xnor : Addr := 375
noncomputable def f_logic_not : Addr := 382
noncomputable def f_logic_and : Addr := 389
noncomputable def f_logic_or : Addr := 396
noncomputable def f_equal : Addr := 403
noncomputable def f_not_equal : Addr := 410
noncomputable def f_case_equal : Addr := 417
noncomputable def f_case_not_equal : Addr := 424
noncomputable def f_matches : Addr := 431
noncomputable def f_choose : Addr := 438
noncomputable def f_unary : Addr := 445
noncomputable def f_arithmetic : Addr := 452
noncomputable def f_comparison : Addr := 459
noncomputable def f_bitwise : Addr := 466
noncomputable def f_binary : Addr := 473
noncomputable def f_whole_of : Addr := 480
noncomputable def f_memory_word : Addr := 487
noncomputable def f_picked : Addr := 494
noncomputable def f_conditional : Addr := 501
noncomputable def f_bits_needed : Addr := 508
noncomputable def f_system_value : Addr := 515
noncomputable def f_evaluate : Addr := 520
noncomputable def f_locate : Addr := 527
noncomputable def f_holder_width : Addr := 534
noncomputable def f_resolve_target : Addr := 541
noncomputable def f_store_rows : Addr := 548
noncomputable def f_Store___init__ : Addr := 562
noncomputable def f_Store_get : Addr := 569
noncomputable def f_Store_word : Addr := 576
noncomputable def f_Store_set_bits : Addr := 583
noncomputable def c_Store : Addr := 586
noncomputable def f_Context___init__ : Addr := 605
noncomputable def f_Context_call : Addr := 612
noncomputable def f_Context_next_random : Addr := 619
noncomputable def f_Context_time_vec : Addr := 626
noncomputable def c_Context : Addr := 629
noncomputable def f_FunctionContext___init__ : Addr := 648
noncomputable def f_FunctionContext_call : Addr := 655
noncomputable def f_FunctionContext_new_frame : Addr := 660
noncomputable def f_FunctionContext_burn : Addr := 667
noncomputable def f_FunctionContext_is_true : Addr := 674
noncomputable def c_FunctionContext : Addr := 677
noncomputable def f_run_block : Addr := 686
noncomputable def f_run_set : Addr := 693
noncomputable def f_run_case : Addr := 700
noncomputable def f_run_while : Addr := 707
noncomputable def f_run_repeat : Addr := 714
noncomputable def f_run_for : Addr := 721
noncomputable def f_run_statement : Addr := 728
noncomputable def f_net_kinds : Addr := 735
noncomputable def f_Signal___init__ : Addr := 749
noncomputable def f_Signal_is_net : Addr := 756
noncomputable def f_Signal_is_memory : Addr := 763
noncomputable def f_Signal_words : Addr := 770
noncomputable def f_Signal_offset : Addr := 777
noncomputable def f_Signal_place : Addr := 784
noncomputable def c_Signal : Addr := 787
noncomputable def f_Routine___init__ : Addr := 805
noncomputable def f_Routine_inputs : Addr := 810
noncomputable def c_Routine : Addr := 813
noncomputable def f_Design___init__ : Addr := 831
noncomputable def f_Design_add_signal : Addr := 838
noncomputable def f_Design_add_scope : Addr := 845
noncomputable def f_Design_add_routine : Addr := 852
noncomputable def f_Design_add_process : Addr := 859
noncomputable def f_Design_find : Addr := 866
noncomputable def f_Design_routine : Addr := 873
noncomputable def c_Design : Addr := 876
noncomputable def f__law_row : Addr := 887
noncomputable def f__law_next : Addr := 894
noncomputable def f__law_bits : Addr := 901
noncomputable def f__law_made : Addr := 908
noncomputable def f__law_lv : Addr := 915
noncomputable def f__law_function : Addr := 922
noncomputable def f__law_refused : Addr := 929
noncomputable def f_law : Addr := 934
end A
noncomputable def Tb : Tab where
  sym := [("append" : Str), ("pop" : Str), ("reverse" : Str), ("get" : Str), ("kind" : Str), ("at" : Str), ("detail" : Str), ("+" : Str), ("-" : Str), ("*" : Str), ("/" : Str), ("%" : Str), ("<<" : Str), ("<<<" : Str), (">>" : Str), (">>>" : Str), ("<" : Str), ("<=" : Str), (">" : Str), (">=" : Str), ("==" : Str), ("!=" : Str), ("===" : Str), ("!==" : Str), ("&" : Str), ("|" : Str), ("^" : Str), ("~^" : Str), ("&&" : Str), ("||" : Str), ("unknown_operator" : Str), ("const" : Str), ("sig" : Str), ("store" : Str), ("local" : Str), ("frame" : Str), ("bin" : Str), ("un" : Str), ("ext" : Str), ("slice" : Str), ("pick" : Str), ("word" : Str), ("cond" : Str), ("cat" : Str), ("pow" : Str), ("call" : Str), ("sys" : Str), ("unknown_expression" : Str), ("signals" : Str), ("width" : Str), ("place" : Str), ("set_bits" : Str), ("values" : Str), ("memories" : Str), ("random_seed" : Str), ("is_net" : Str), ("words" : Str), ("now" : Str), ("__init__" : Str), ("design" : Str), ("fuel" : Str), ("depth" : Str), ("written" : Str), ("function_depth" : Str), ("routine" : Str), ("new_frame" : Str), ("body" : Str), ("slots" : Str), ("ports" : Str), ("input" : Str), ("function_steps" : Str), ("timing_in_function" : Str), ("is_true" : Str), ("burn" : Str), ("set" : Str), ("block" : Str), ("if" : Str), ("case" : Str), ("for" : Str), ("while" : Str), ("repeat" : Str), ("forever" : Str), ("disable" : Str), ("not_in_function" : Str), ("wire" : Str), ("tri" : Str), ("wand" : Str), ("wor" : Str), ("tri0" : Str), ("tri1" : Str), ("trireg" : Str), ("supply0" : Str), ("supply1" : Str), ("key" : Str), ("path" : Str), ("signed" : Str), ("msb" : Str), ("lsb" : Str), ("first" : Str), ("last" : Str), ("init" : Str), ("scalar" : Str), ("number" : Str), ("is_function" : Str), ("automatic" : Str), ("source" : Str), ("scope" : Str), ("disable_scope" : Str), ("made" : Str), ("assigns" : Str), ("gates" : Str), ("udps" : Str), ("processes" : Str), ("routines" : Str), ("scopes" : Str), ("tops" : Str), ("maker" : Str), ("by_path" : Str), ("make_body" : Str), ("lv" : Str), ("add_routine" : Str), ("top.f" : Str), ("" : Str), ("top.s" : Str), ("top.t" : Str), ("add_signal" : Str), ("reg" : Str), ("delay" : Str), ("await" : Str), ("any" : Str), ("wait" : Str), ("nba" : Str), ("trigger" : Str), ("fork" : Str), ("$display" : Str), ("casez" : Str), ("casex" : Str)]
  plain := [(586, [48, 52, 53, 54]), (629, [33, 35, 57]), (677, [33, 35, 57, 59, 60, 61, 62]), (787, [93, 94, 4, 49, 95, 96, 97, 98, 99, 100, 5, 101]), (813, [102, 94, 103, 104, 5, 49, 95, 68, 67, 66, 105, 106, 107, 108]), (876, [48, 109, 110, 111, 112, 113, 114, 115, 68, 116, 117])]
  eplain := [(52, [4, 5, 6]), (64, [4, 5, 6])]
  meths := [((586, 3), 569), ((586, 51), 583), ((677, 45), 655), ((677, 65), 660), ((677, 73), 667), ((677, 72), 674), ((787, 55), 756), ((876, 125), 838), ((876, 120), 852), ((876, 64), 873)]
  clsAttrs := [((629, 58), 605)]
  subs := [((39, 39), true), ((39, 52), false), ((39, 64), false), ((52, 39), true), ((52, 52), true), ((52, 64), false), ((64, 39), true), ((64, 52), false), ((64, 64), true)]
namespace S
-- 0 'append'
-- 1 'pop'
-- 2 'reverse'
-- 3 'get'
-- 4 'kind'
-- 5 'at'
-- 6 'detail'
-- 7 '+'
-- 8 '-'
-- 9 '*'
-- 10 '/'
-- 11 '%'
-- 12 '<<'
-- 13 '<<<'
-- 14 '>>'
-- 15 '>>>'
-- 16 '<'
-- 17 '<='
-- 18 '>'
-- 19 '>='
-- 20 '=='
-- 21 '!='
-- 22 '==='
-- 23 '!=='
-- 24 '&'
-- 25 '|'
-- 26 '^'
-- 27 '~^'
-- 28 '&&'
-- 29 '||'
-- 30 'unknown_operator'
-- 31 'const'
-- 32 'sig'
-- 33 'store'
-- 34 'local'
-- 35 'frame'
-- 36 'bin'
-- 37 'un'
-- 38 'ext'
-- 39 'slice'
-- 40 'pick'
-- 41 'word'
-- 42 'cond'
-- 43 'cat'
-- 44 'pow'
-- 45 'call'
-- 46 'sys'
-- 47 'unknown_expression'
-- 48 'signals'
-- 49 'width'
-- 50 'place'
-- 51 'set_bits'
-- 52 'values'
-- 53 'memories'
-- 54 'random_seed'
-- 55 'is_net'
-- 56 'words'
-- 57 'now'
-- 58 '__init__'
-- 59 'design'
-- 60 'fuel'
-- 61 'depth'
-- 62 'written'
-- 63 'function_depth'
-- 64 'routine'
-- 65 'new_frame'
-- 66 'body'
-- 67 'slots'
-- 68 'ports'
-- 69 'input'
-- 70 'function_steps'
-- 71 'timing_in_function'
-- 72 'is_true'
-- 73 'burn'
-- 74 'set'
-- 75 'block'
-- 76 'if'
-- 77 'case'
-- 78 'for'
-- 79 'while'
-- 80 'repeat'
-- 81 'forever'
-- 82 'disable'
-- 83 'not_in_function'
-- 84 'wire'
-- 85 'tri'
-- 86 'wand'
-- 87 'wor'
-- 88 'tri0'
-- 89 'tri1'
-- 90 'trireg'
-- 91 'supply0'
-- 92 'supply1'
-- 93 'key'
-- 94 'path'
-- 95 'signed'
-- 96 'msb'
-- 97 'lsb'
-- 98 'first'
-- 99 'last'
-- 100 'init'
-- 101 'scalar'
-- 102 'number'
-- 103 'is_function'
-- 104 'automatic'
-- 105 'source'
-- 106 'scope'
-- 107 'disable_scope'
-- 108 'made'
-- 109 'assigns'
-- 110 'gates'
-- 111 'udps'
-- 112 'processes'
-- 113 'routines'
-- 114 'scopes'
-- 115 'tops'
-- 116 'maker'
-- 117 'by_path'
-- 118 'make_body'
-- 119 'lv'
-- 120 'add_routine'
-- 121 'top.f'
-- 122 ''
-- 123 'top.s'
-- 124 'top.t'
-- 125 'add_signal'
-- 126 'reg'
-- 127 'delay'
-- 128 'await'
-- 129 'any'
-- 130 'wait'
-- 131 'nba'
-- 132 'trigger'
-- 133 'fork'
-- 134 '$display'
-- 135 'casez'
-- 136 'casex'
end S
namespace M
noncomputable def GateloomError___init___1_2 : List MS := [.asg (.attr (.loc 0) 6) (.loc 3)]
noncomputable def GateloomError___init___1_1 : List MS := .asg (.attr (.loc 0) 5) (.loc 2) :: GateloomError___init___1_2
noncomputable def GateloomError___init___1_0 : List MS := .asg (.attr (.loc 0) 4) (.loc 1) :: GateloomError___init___1_1
noncomputable abbrev GateloomError___init__ : List MS := GateloomError___init___1_0
noncomputable def mask_1_0 : List MS := [.ret (.bin .Sub (.bin .LShift (.int 1) (.loc 0)) (.int 1))]
noncomputable abbrev mask : List MS := mask_1_0
noncomputable def vec_1_1 : List MS := [.ret (.tup [.loc 0, .bin .BitAnd (.loc 1) (.loc 3), .bin .BitAnd (.loc 2) (.loc 3)])]
noncomputable def vec_1_0 : List MS := .asg (.nm 3) (.call (.con (.ref A.f_mask)) [.loc 0]) :: vec_1_1
noncomputable abbrev vec : List MS := vec_1_0
noncomputable def all_x_1_1 : List MS := [.ret (.tup [.loc 0, .loc 1, .loc 1])]
noncomputable def all_x_1_0 : List MS := .asg (.nm 1) (.call (.con (.ref A.f_mask)) [.loc 0]) :: all_x_1_1
noncomputable abbrev all_x : List MS := all_x_1_0
noncomputable def from_int_1_0 : List MS := [.ret (.tup [.loc 0, .bin .BitAnd (.loc 1) (.call (.con (.ref A.f_mask)) [.loc 0]), .int 0])]
noncomputable abbrev from_int : List MS := from_int_1_0
noncomputable def is_known_1_0 : List MS := [.ret (.cmp .Eq (.item (.loc 0) (.int 2)) (.int 0))]
noncomputable abbrev is_known : List MS := is_known_1_0
noncomputable def code_1_0 : List MS := [.ret (.bin .Add (.bin .BitAnd (.bin .RShift (.item (.loc 0) (.int 1)) (.loc 1)) (.int 1)) (.bin .Mult (.int 2) (.bin .BitAnd (.bin .RShift (.item (.loc 0) (.int 2)) (.loc 1)) (.int 1))))]
noncomputable abbrev code : List MS := code_1_0
noncomputable def slice_vec_1_0 : List MS := [.ret (.call (.con (.ref A.f_all_x)) [.loc 2])]
noncomputable def slice_vec_2_8 : List MS := [.ret (.tup [.loc 2, .bin .BitOr (.loc 8) (.loc 7), .bin .BitOr (.loc 9) (.loc 7)])]
noncomputable def slice_vec_2_7 : List MS := .asg (.nm 9) (.bin .LShift (.bin .BitAnd (.bin .RShift (.item (.loc 0) (.int 2)) (.loc 3)) (.loc 5)) (.loc 6)) :: slice_vec_2_8
noncomputable def slice_vec_2_6 : List MS := .asg (.nm 8) (.bin .LShift (.bin .BitAnd (.bin .RShift (.item (.loc 0) (.int 1)) (.loc 3)) (.loc 5)) (.loc 6)) :: slice_vec_2_7
noncomputable def slice_vec_2_5 : List MS := .asg (.nm 7) (.bin .BitXor (.call (.con (.ref A.f_mask)) [.loc 2]) (.bin .LShift (.loc 5) (.loc 6))) :: slice_vec_2_6
noncomputable def slice_vec_2_4 : List MS := .asg (.nm 6) (.bin .Sub (.loc 3) (.loc 1)) :: slice_vec_2_5
noncomputable def slice_vec_2_3 : List MS := .asg (.nm 5) (.call (.con (.ref A.f_mask)) [.bin .Sub (.loc 4) (.loc 3)]) :: slice_vec_2_4
noncomputable def slice_vec_2_2 : List MS := .ite (.cmp .LtE (.loc 4) (.loc 3)) slice_vec_1_0 [] :: slice_vec_2_3
noncomputable def slice_vec_2_1 : List MS := .asg (.nm 4) (.call (.con (.builtin "min")) [.bin .Add (.loc 1) (.loc 2), .item (.loc 0) (.int 0)]) :: slice_vec_2_2
noncomputable def slice_vec_2_0 : List MS := .asg (.nm 3) (.call (.con (.builtin "max")) [.loc 1, .int 0]) :: slice_vec_2_1
noncomputable abbrev slice_vec : List MS := slice_vec_2_0
noncomputable def put_slice_1_0 : List MS := [.ret (.loc 0)]
noncomputable def put_slice_2_8 : List MS := [.ret (.tup [.item (.loc 0) (.int 0), .loc 8, .loc 9])]
noncomputable def put_slice_2_7 : List MS := .asg (.nm 9) (.bin .BitOr (.bin .BitAnd (.item (.loc 0) (.int 2)) (.loc 7)) (.bin .LShift (.bin .BitAnd (.bin .RShift (.item (.loc 2) (.int 2)) (.loc 6)) (.loc 5)) (.loc 3))) :: put_slice_2_8
noncomputable def put_slice_2_6 : List MS := .asg (.nm 8) (.bin .BitOr (.bin .BitAnd (.item (.loc 0) (.int 1)) (.loc 7)) (.bin .LShift (.bin .BitAnd (.bin .RShift (.item (.loc 2) (.int 1)) (.loc 6)) (.loc 5)) (.loc 3))) :: put_slice_2_7
noncomputable def put_slice_2_5 : List MS := .asg (.nm 7) (.bin .BitXor (.call (.con (.ref A.f_mask)) [.item (.loc 0) (.int 0)]) (.bin .LShift (.loc 5) (.loc 3))) :: put_slice_2_6
noncomputable def put_slice_2_4 : List MS := .asg (.nm 6) (.bin .Sub (.loc 3) (.loc 1)) :: put_slice_2_5
noncomputable def put_slice_2_3 : List MS := .asg (.nm 5) (.call (.con (.ref A.f_mask)) [.bin .Sub (.loc 4) (.loc 3)]) :: put_slice_2_4
noncomputable def put_slice_2_2 : List MS := .ite (.cmp .LtE (.loc 4) (.loc 3)) put_slice_1_0 [] :: put_slice_2_3
noncomputable def put_slice_2_1 : List MS := .asg (.nm 4) (.call (.con (.builtin "min")) [.bin .Add (.loc 1) (.item (.loc 2) (.int 0)), .item (.loc 0) (.int 0)]) :: put_slice_2_2
noncomputable def put_slice_2_0 : List MS := .asg (.nm 3) (.call (.con (.builtin "max")) [.loc 1, .int 0]) :: put_slice_2_1
noncomputable abbrev put_slice : List MS := put_slice_2_0
noncomputable def extend_1_0 : List MS := [.ret (.call (.con (.ref A.f_vec)) [.loc 1, .item (.loc 0) (.int 1), .item (.loc 0) (.int 2)])]
noncomputable def extend_2_0 : List MS := [.ret (.tup [.loc 1, .item (.loc 0) (.int 1), .item (.loc 0) (.int 2)])]
noncomputable def extend_3_6 : List MS := [.ret (.tup [.loc 1, .loc 5, .loc 6])]
noncomputable def extend_3_5 : List MS := .asg (.nm 6) (.bin .BitOr (.item (.loc 0) (.int 2)) (.ite (.bin .BitAnd (.loc 4) (.int 2)) (.loc 3) (.int 0))) :: extend_3_6
noncomputable def extend_3_4 : List MS := .asg (.nm 5) (.bin .BitOr (.item (.loc 0) (.int 1)) (.ite (.bin .BitAnd (.loc 4) (.int 1)) (.loc 3) (.int 0))) :: extend_3_5
noncomputable def extend_3_3 : List MS := .asg (.nm 4) (.call (.con (.ref A.f_code)) [.loc 0, .bin .Sub (.item (.loc 0) (.int 0)) (.int 1)]) :: extend_3_4
noncomputable def extend_3_2 : List MS := .asg (.nm 3) (.bin .BitXor (.call (.con (.ref A.f_mask)) [.loc 1]) (.call (.con (.ref A.f_mask)) [.item (.loc 0) (.int 0)])) :: extend_3_3
noncomputable def extend_3_1 : List MS := .ite (.not (.loc 2)) extend_2_0 [] :: extend_3_2
noncomputable def extend_3_0 : List MS := .ite (.cmp .LtE (.loc 1) (.item (.loc 0) (.int 0))) extend_1_0 [] :: extend_3_1
noncomputable abbrev extend : List MS := extend_3_0
noncomputable def truth_1_0 : List MS := [.ret (.int 1)]
noncomputable def truth_2_0 : List MS := [.ret (.int 0)]
noncomputable def truth_3_2 : List MS := [.ret (.int 3)]
noncomputable def truth_3_1 : List MS := .ite (.and [.cmp .Eq (.item (.loc 0) (.int 1)) (.int 0), .cmp .Eq (.item (.loc 0) (.int 2)) (.int 0)]) truth_2_0 [] :: truth_3_2
noncomputable def truth_3_0 : List MS := .ite (.cmp .NotEq (.bin .BitAnd (.item (.loc 0) (.int 1)) (.bin .BitXor (.item (.loc 0) (.int 2)) (.call (.con (.ref A.f_mask)) [.item (.loc 0) (.int 0)]))) (.int 0)) truth_1_0 [] :: truth_3_1
noncomputable abbrev truth : List MS := truth_3_0
noncomputable def add_1_0 : List MS := [.ret (.call (.con (.ref A.f_all_x)) [.item (.loc 0) (.int 0)])]
noncomputable def add_2_1 : List MS := [.ret (.call (.con (.ref A.f_from_int)) [.item (.loc 0) (.int 0), .bin .Add (.item (.loc 0) (.int 1)) (.item (.loc 1) (.int 1))])]
noncomputable def add_2_0 : List MS := .ite (.or [.not (.call (.con (.ref A.f_is_known)) [.loc 0]), .not (.call (.con (.ref A.f_is_known)) [.loc 1])]) add_1_0 [] :: add_2_1
noncomputable abbrev add : List MS := add_2_0
noncomputable def one_bit_1_0 : List MS := [.ret (.tup [.int 1, .bin .BitAnd (.loc 0) (.int 1), .bin .RShift (.loc 0) (.int 1)])]
noncomputable abbrev one_bit : List MS := one_bit_1_0
noncomputable def bit_xor_1_1 : List MS := [.ret (.tup [.item (.loc 0) (.int 0), .bin .BitOr (.bin .BitXor (.item (.loc 0) (.int 1)) (.item (.loc 1) (.int 1))) (.loc 2), .loc 2])]
noncomputable def bit_xor_1_0 : List MS := .asg (.nm 2) (.bin .BitOr (.item (.loc 0) (.int 2)) (.item (.loc 1) (.int 2))) :: bit_xor_1_1
noncomputable abbrev bit_xor : List MS := bit_xor_1_0
noncomputable def equal_1_0 : List MS := [.ret (.call (.con (.ref A.f_one_bit)) [.int 0])]
noncomputable def equal_2_2 : List MS := [.ret (.call (.con (.ref A.f_one_bit)) [.ite (.cmp .Eq (.loc 2) (.int 0)) (.int 1) (.int 3)])]
noncomputable def equal_2_1 : List MS := .ite (.cmp .NotEq (.bin .BitAnd (.bin .BitXor (.item (.loc 0) (.int 1)) (.item (.loc 1) (.int 1))) (.bin .BitXor (.loc 2) (.call (.con (.ref A.f_mask)) [.item (.loc 0) (.int 0)]))) (.int 0)) equal_1_0 [] :: equal_2_2
noncomputable def equal_2_0 : List MS := .asg (.nm 2) (.bin .BitOr (.item (.loc 0) (.int 2)) (.item (.loc 1) (.int 2))) :: equal_2_1
noncomputable abbrev equal : List MS := equal_2_0
noncomputable def arithmetic_1_0 : List MS := [.ret (.call (.con (.ref A.f_add)) [.loc 1, .loc 2])]
noncomputable def arithmetic_2_0 : List MS := [.ret (.call (.con (.ref A.f_sub)) [.loc 1, .loc 2])]
noncomputable def arithmetic_3_0 : List MS := [.ret (.call (.con (.ref A.f_mul)) [.loc 1, .loc 2])]
noncomputable def arithmetic_4_0 : List MS := [.ret (.call (.con (.ref A.f_div)) [.loc 1, .loc 2, .loc 3])]
noncomputable def arithmetic_5_0 : List MS := [.ret (.call (.con (.ref A.f_mod)) [.loc 1, .loc 2, .loc 3])]
noncomputable def arithmetic_6_0 : List MS := [.ret (.call (.con (.ref A.f_shift_left)) [.loc 1, .loc 2])]
noncomputable def arithmetic_7_0 : List MS := [.ret (.call (.con (.ref A.f_shift_right)) [.loc 1, .loc 2])]
noncomputable def arithmetic_8_0 : List MS := [.ret (.call (.con (.ref A.f_shift_arith)) [.loc 1, .loc 2, .loc 3])]
noncomputable def arithmetic_9_8 : List MS := [.ret .none]
noncomputable def arithmetic_9_7 : List MS := .ite (.cmp .Eq (.loc 0) (.sym 15)) arithmetic_8_0 [] :: arithmetic_9_8
noncomputable def arithmetic_9_6 : List MS := .ite (.cmp .Eq (.loc 0) (.sym 14)) arithmetic_7_0 [] :: arithmetic_9_7
noncomputable def arithmetic_9_5 : List MS := .ite (.or [.cmp .Eq (.loc 0) (.sym 12), .cmp .Eq (.loc 0) (.sym 13)]) arithmetic_6_0 [] :: arithmetic_9_6
noncomputable def arithmetic_9_4 : List MS := .ite (.cmp .Eq (.loc 0) (.sym 11)) arithmetic_5_0 [] :: arithmetic_9_5
noncomputable def arithmetic_9_3 : List MS := .ite (.cmp .Eq (.loc 0) (.sym 10)) arithmetic_4_0 [] :: arithmetic_9_4
noncomputable def arithmetic_9_2 : List MS := .ite (.cmp .Eq (.loc 0) (.sym 9)) arithmetic_3_0 [] :: arithmetic_9_3
noncomputable def arithmetic_9_1 : List MS := .ite (.cmp .Eq (.loc 0) (.sym 8)) arithmetic_2_0 [] :: arithmetic_9_2
noncomputable def arithmetic_9_0 : List MS := .ite (.cmp .Eq (.loc 0) (.sym 7)) arithmetic_1_0 [] :: arithmetic_9_1
noncomputable abbrev arithmetic : List MS := arithmetic_9_0
noncomputable def comparison_1_0 : List MS := [.ret (.call (.con (.ref A.f_less)) [.loc 1, .loc 2, .loc 3])]
noncomputable def comparison_2_0 : List MS := [.ret (.call (.con (.ref A.f_less_equal)) [.loc 1, .loc 2, .loc 3])]
noncomputable def comparison_3_0 : List MS := [.ret (.call (.con (.ref A.f_greater)) [.loc 1, .loc 2, .loc 3])]
noncomputable def comparison_4_0 : List MS := [.ret (.call (.con (.ref A.f_greater_equal)) [.loc 1, .loc 2, .loc 3])]
noncomputable def comparison_5_0 : List MS := [.ret (.call (.con (.ref A.f_equal)) [.loc 1, .loc 2])]
noncomputable def comparison_6_0 : List MS := [.ret (.call (.con (.ref A.f_not_equal)) [.loc 1, .loc 2])]
noncomputable def comparison_7_0 : List MS := [.ret (.call (.con (.ref A.f_case_equal)) [.loc 1, .loc 2])]
noncomputable def comparison_8_0 : List MS := [.ret (.call (.con (.ref A.f_case_not_equal)) [.loc 1, .loc 2])]
noncomputable def comparison_9_8 : List MS := [.ret .none]
noncomputable def comparison_9_7 : List MS := .ite (.cmp .Eq (.loc 0) (.sym 23)) comparison_8_0 [] :: comparison_9_8
noncomputable def comparison_9_6 : List MS := .ite (.cmp .Eq (.loc 0) (.sym 22)) comparison_7_0 [] :: comparison_9_7
noncomputable def comparison_9_5 : List MS := .ite (.cmp .Eq (.loc 0) (.sym 21)) comparison_6_0 [] :: comparison_9_6
noncomputable def comparison_9_4 : List MS := .ite (.cmp .Eq (.loc 0) (.sym 20)) comparison_5_0 [] :: comparison_9_5
noncomputable def comparison_9_3 : List MS := .ite (.cmp .Eq (.loc 0) (.sym 19)) comparison_4_0 [] :: comparison_9_4
noncomputable def comparison_9_2 : List MS := .ite (.cmp .Eq (.loc 0) (.sym 18)) comparison_3_0 [] :: comparison_9_3
noncomputable def comparison_9_1 : List MS := .ite (.cmp .Eq (.loc 0) (.sym 17)) comparison_2_0 [] :: comparison_9_2
noncomputable def comparison_9_0 : List MS := .ite (.cmp .Eq (.loc 0) (.sym 16)) comparison_1_0 [] :: comparison_9_1
noncomputable abbrev comparison : List MS := comparison_9_0
noncomputable def bitwise_1_0 : List MS := [.ret (.call (.con (.ref A.f_bit_and)) [.loc 1, .loc 2])]
noncomputable def bitwise_2_0 : List MS := [.ret (.call (.con (.ref A.f_bit_or)) [.loc 1, .loc 2])]
noncomputable def bitwise_3_0 : List MS := [.ret (.call (.con (.ref A.f_bit_xor)) [.loc 1, .loc 2])]
noncomputable def bitwise_4_0 : List MS := [.ret (.call (.con (.ref A.f_bit_xnor)) [.loc 1, .loc 2])]
noncomputable def bitwise_5_0 : List MS := [.ret (.call (.con (.ref A.f_logic_and)) [.loc 1, .loc 2])]
noncomputable def bitwise_6_0 : List MS := [.ret (.call (.con (.ref A.f_logic_or)) [.loc 1, .loc 2])]
noncomputable def bitwise_7_6 : List MS := [.ret .none]
noncomputable def bitwise_7_5 : List MS := .ite (.cmp .Eq (.loc 0) (.sym 29)) bitwise_6_0 [] :: bitwise_7_6
noncomputable def bitwise_7_4 : List MS := .ite (.cmp .Eq (.loc 0) (.sym 28)) bitwise_5_0 [] :: bitwise_7_5
noncomputable def bitwise_7_3 : List MS := .ite (.cmp .Eq (.loc 0) (.sym 27)) bitwise_4_0 [] :: bitwise_7_4
noncomputable def bitwise_7_2 : List MS := .ite (.cmp .Eq (.loc 0) (.sym 26)) bitwise_3_0 [] :: bitwise_7_3
noncomputable def bitwise_7_1 : List MS := .ite (.cmp .Eq (.loc 0) (.sym 25)) bitwise_2_0 [] :: bitwise_7_2
noncomputable def bitwise_7_0 : List MS := .ite (.cmp .Eq (.loc 0) (.sym 24)) bitwise_1_0 [] :: bitwise_7_1
noncomputable abbrev bitwise : List MS := bitwise_7_0
noncomputable def binary_1_0 : List MS := [.asg (.nm 4) (.call (.con (.ref A.f_comparison)) [.loc 0, .loc 1, .loc 2, .loc 3])]
noncomputable def binary_2_0 : List MS := [.asg (.nm 4) (.call (.con (.ref A.f_bitwise)) [.loc 0, .loc 1, .loc 2])]
noncomputable def binary_3_0 : List MS := [.rse (.call (.con (.ref A.c_DesignError)) [.sym 30, .neg (.int 1), .loc 0])]
noncomputable def binary_4_4 : List MS := [.ret (.loc 4)]
noncomputable def binary_4_3 : List MS := .ite (.cmp .Is (.loc 4) .none) binary_3_0 [] :: binary_4_4
noncomputable def binary_4_2 : List MS := .ite (.cmp .Is (.loc 4) .none) binary_2_0 [] :: binary_4_3
noncomputable def binary_4_1 : List MS := .ite (.cmp .Is (.loc 4) .none) binary_1_0 [] :: binary_4_2
noncomputable def binary_4_0 : List MS := .asg (.nm 4) (.call (.con (.ref A.f_arithmetic)) [.loc 0, .loc 1, .loc 2, .loc 3]) :: binary_4_1
noncomputable abbrev binary : List MS := binary_4_0
noncomputable def evaluate_1_0 : List MS := [.ret (.tup [.item (.loc 0) (.int 1), .item (.loc 0) (.int 2), .item (.loc 0) (.int 3)])]
noncomputable def evaluate_2_0 : List MS := [.ret (.meth (.attr (.loc 1) 33) 3 [.item (.loc 0) (.int 2)])]
noncomputable def evaluate_3_0 : List MS := [.ret (.item (.attr (.loc 1) 35) (.item (.loc 0) (.int 2)))]
noncomputable def evaluate_4_0 : List MS := [.ret (.call (.con (.ref A.f_binary)) [.item (.loc 0) (.int 2), .call (.con (.ref A.f_evaluate)) [.item (.loc 0) (.int 3), .loc 1], .call (.con (.ref A.f_evaluate)) [.item (.loc 0) (.int 4), .loc 1], .item (.loc 0) (.int 5)])]
noncomputable def evaluate_5_0 : List MS := [.ret (.call (.con (.ref A.f_unary)) [.item (.loc 0) (.int 2), .call (.con (.ref A.f_evaluate)) [.item (.loc 0) (.int 3), .loc 1]])]
noncomputable def evaluate_6_0 : List MS := [.ret (.call (.con (.ref A.f_extend)) [.call (.con (.ref A.f_evaluate)) [.item (.loc 0) (.int 2), .loc 1], .item (.loc 0) (.int 1), .item (.loc 0) (.int 3)])]
noncomputable def evaluate_7_0 : List MS := [.ret (.call (.con (.ref A.f_slice_vec)) [.call (.con (.ref A.f_evaluate)) [.item (.loc 0) (.int 2), .loc 1], .item (.loc 0) (.int 3), .item (.loc 0) (.int 1)])]
noncomputable def evaluate_8_0 : List MS := [.ret (.call (.con (.ref A.f_picked)) [.loc 0, .loc 1])]
noncomputable def evaluate_9_0 : List MS := [.ret (.call (.con (.ref A.f_memory_word)) [.loc 0, .loc 1])]
noncomputable def evaluate_10_0 : List MS := [.ret (.call (.con (.ref A.f_conditional)) [.loc 0, .loc 1])]
noncomputable def evaluate_11_0 : List MS := [.ret (.call (.con (.ref A.f_concat)) [.comp (.call (.con (.ref A.f_evaluate)) [.loc 3, .loc 1]) [3] true .exp (.item (.loc 0) (.int 2)) .none []])]
noncomputable def evaluate_12_0 : List MS := [.ret (.call (.con (.ref A.f_power)) [.call (.con (.ref A.f_evaluate)) [.item (.loc 0) (.int 2), .loc 1], .call (.con (.ref A.f_evaluate)) [.item (.loc 0) (.int 3), .loc 1], .item (.loc 0) (.int 4), .item (.loc 0) (.int 5)])]
noncomputable def evaluate_13_0 : List MS := [.ret (.meth (.loc 1) 45 [.item (.loc 0) (.int 2), .comp (.call (.con (.ref A.f_evaluate)) [.loc 4, .loc 1]) [4] true .exp (.item (.loc 0) (.int 3)) .none []])]
noncomputable def evaluate_14_0 : List MS := [.ret (.call (.con (.ref A.f_system_value)) [.loc 0, .loc 1])]
noncomputable def evaluate_15_15 : List MS := [.rse (.call (.con (.ref A.c_DesignError)) [.sym 47, .neg (.int 1), .loc 2])]
noncomputable def evaluate_15_14 : List MS := .ite (.cmp .Eq (.loc 2) (.sym 46)) evaluate_14_0 [] :: evaluate_15_15
noncomputable def evaluate_15_13 : List MS := .ite (.cmp .Eq (.loc 2) (.sym 45)) evaluate_13_0 [] :: evaluate_15_14
noncomputable def evaluate_15_12 : List MS := .ite (.cmp .Eq (.loc 2) (.sym 44)) evaluate_12_0 [] :: evaluate_15_13
noncomputable def evaluate_15_11 : List MS := .ite (.cmp .Eq (.loc 2) (.sym 43)) evaluate_11_0 [] :: evaluate_15_12
noncomputable def evaluate_15_10 : List MS := .ite (.cmp .Eq (.loc 2) (.sym 42)) evaluate_10_0 [] :: evaluate_15_11
noncomputable def evaluate_15_9 : List MS := .ite (.cmp .Eq (.loc 2) (.sym 41)) evaluate_9_0 [] :: evaluate_15_10
noncomputable def evaluate_15_8 : List MS := .ite (.cmp .Eq (.loc 2) (.sym 40)) evaluate_8_0 [] :: evaluate_15_9
noncomputable def evaluate_15_7 : List MS := .ite (.cmp .Eq (.loc 2) (.sym 39)) evaluate_7_0 [] :: evaluate_15_8
noncomputable def evaluate_15_6 : List MS := .ite (.cmp .Eq (.loc 2) (.sym 38)) evaluate_6_0 [] :: evaluate_15_7
noncomputable def evaluate_15_5 : List MS := .ite (.cmp .Eq (.loc 2) (.sym 37)) evaluate_5_0 [] :: evaluate_15_6
noncomputable def evaluate_15_4 : List MS := .ite (.cmp .Eq (.loc 2) (.sym 36)) evaluate_4_0 [] :: evaluate_15_5
noncomputable def evaluate_15_3 : List MS := .ite (.cmp .Eq (.loc 2) (.sym 34)) evaluate_3_0 [] :: evaluate_15_4
noncomputable def evaluate_15_2 : List MS := .ite (.cmp .Eq (.loc 2) (.sym 32)) evaluate_2_0 [] :: evaluate_15_3
noncomputable def evaluate_15_1 : List MS := .ite (.cmp .Eq (.loc 2) (.sym 31)) evaluate_1_0 [] :: evaluate_15_2
noncomputable def evaluate_15_0 : List MS := .asg (.nm 2) (.item (.loc 0) (.int 0)) :: evaluate_15_1
noncomputable abbrev evaluate : List MS := evaluate_15_0
noncomputable def locate_1_0 : List MS := [.ret (.item (.loc 0) (.int 1))]
noncomputable def locate_2_0 : List MS := [.ret .none]
noncomputable def locate_3_3 : List MS := [.ret (.bin .Mult (.bin .Sub (.loc 2) (.item (.loc 0) (.int 3))) (.item (.loc 0) (.int 4)))]
noncomputable def locate_3_2 : List MS := .ite (.cmp .Is (.loc 2) .none) locate_2_0 [] :: locate_3_3
noncomputable def locate_3_1 : List MS := .asg (.nm 2) (.call (.con (.ref A.f_whole_of)) [.item (.loc 0) (.int 1), .item (.loc 0) (.int 2), .loc 1]) :: locate_3_2
noncomputable def locate_3_0 : List MS := .ite (.cmp .Eq (.item (.loc 0) (.int 0)) (.sym 5)) locate_1_0 [] :: locate_3_1
noncomputable abbrev locate : List MS := locate_3_0
noncomputable def holder_width_1_0 : List MS := [.ret (.attr (.item (.attr (.attr (.loc 1) 33) 48) (.item (.loc 0) (.int 2))) 49)]
noncomputable def holder_width_2_1 : List MS := [.ret (.item (.item (.attr (.loc 1) 35) (.item (.loc 0) (.int 2))) (.int 0))]
noncomputable def holder_width_2_0 : List MS := .ite (.cmp .Eq (.item (.loc 0) (.int 0)) (.sym 32)) holder_width_1_0 [] :: holder_width_2_1
noncomputable abbrev holder_width : List MS := holder_width_2_0
noncomputable def resolve_target_1_0 : List MS := [.cont]
noncomputable def resolve_target_2_0 : List MS := [.cont]
noncomputable def resolve_target_3_3 : List MS := [.ite (.cmp .Lt (.loc 10) (.int 0)) resolve_target_2_0 []]
noncomputable def resolve_target_3_2 : List MS := .asg (.nm 10) (.meth (.item (.attr (.attr (.loc 1) 33) 48) (.loc 7)) 50 [.loc 11]) :: resolve_target_3_3
noncomputable def resolve_target_3_1 : List MS := .ite (.cmp .Is (.loc 11) .none) resolve_target_1_0 [] :: resolve_target_3_2
noncomputable def resolve_target_3_0 : List MS := .asg (.nm 11) (.call (.con (.ref A.f_whole_of)) [.item (.loc 8) (.int 0), .item (.loc 8) (.int 1), .loc 1]) :: resolve_target_3_1
noncomputable def resolve_target_4_0 : List MS := [.cont]
noncomputable def resolve_target_5_6 : List MS := [.expr (.meth (.loc 2) 0 [.tup [.loc 5, .loc 7, .loc 10, .loc 12, .loc 6, .loc 3]])]
noncomputable def resolve_target_5_5 : List MS := .ite (.or [.cmp .Is (.loc 12) .none, .cmp .LtE (.bin .Add (.loc 12) (.loc 6)) (.int 0), .cmp .GtE (.loc 12) (.call (.con (.ref A.f_holder_width)) [.loc 4, .loc 1])]) resolve_target_4_0 [] :: resolve_target_5_6
noncomputable def resolve_target_5_4 : List MS := .asg (.nm 12) (.call (.con (.ref A.f_locate)) [.loc 9, .loc 1]) :: resolve_target_5_5
noncomputable def resolve_target_5_3 : List MS := .ite (.cmp .IsNot (.loc 8) .none) resolve_target_3_0 [] :: resolve_target_5_4
noncomputable def resolve_target_5_2 : List MS := .asg (.nm 10) .none :: resolve_target_5_3
noncomputable def resolve_target_5_1 : List MS := .aug (.nm 3) .Sub (.loc 6) :: resolve_target_5_2
noncomputable def resolve_target_5_0 : List MS := .asg (.tup [5, 6, 7, 8, 9]) (.loc 4) :: resolve_target_5_1
noncomputable def resolve_target_6_3 : List MS := [.ret (.loc 2)]
noncomputable def resolve_target_6_2 : List MS := .for (.nm 4) .exp (.item (.loc 0) (.int 2)) .none resolve_target_5_0 :: resolve_target_6_3
noncomputable def resolve_target_6_1 : List MS := .asg (.nm 3) (.item (.loc 0) (.int 1)) :: resolve_target_6_2
noncomputable def resolve_target_6_0 : List MS := .asg (.nm 2) (.list []) :: resolve_target_6_1
noncomputable abbrev resolve_target : List MS := resolve_target_6_0
noncomputable def store_rows_1_0 : List MS := [.asg (.item (.loc 3) (.loc 5)) (.bool true)]
noncomputable def store_rows_2_0 : List MS := [.ite (.meth (.attr (.loc 2) 33) 51 [.loc 5, .loc 6, .loc 7, .loc 10]) store_rows_1_0 []]
noncomputable def store_rows_3_0 : List MS := [.asg (.item (.attr (.loc 2) 35) (.loc 5)) (.call (.con (.ref A.f_put_slice)) [.item (.attr (.loc 2) 35) (.loc 5), .loc 7, .loc 10])]
noncomputable def store_rows_4_1 : List MS := [.ite (.cmp .Eq (.loc 4) (.sym 32)) store_rows_2_0 store_rows_3_0]
noncomputable def store_rows_4_0 : List MS := .asg (.nm 10) (.call (.con (.ref A.f_slice_vec)) [.loc 1, .loc 9, .loc 8]) :: store_rows_4_1
noncomputable def store_rows_5_2 : List MS := [.ret (.call (.con (.builtin "sorted")) [.loc 3])]
noncomputable def store_rows_5_1 : List MS := .for (.tup [4, 5, 6, 7, 8, 9]) .exp (.loc 0) .none store_rows_4_0 :: store_rows_5_2
noncomputable def store_rows_5_0 : List MS := .asg (.nm 3) .dI :: store_rows_5_1
noncomputable abbrev store_rows : List MS := store_rows_5_0
noncomputable def Store___init___1_3 : List MS := [.asg (.attr (.loc 0) 54) (.int 1)]
noncomputable def Store___init___1_2 : List MS := .asg (.attr (.loc 0) 53) .dI :: Store___init___1_3
noncomputable def Store___init___1_1 : List MS := .asg (.attr (.loc 0) 52) .dI :: Store___init___1_2
noncomputable def Store___init___1_0 : List MS := .asg (.attr (.loc 0) 48) (.loc 1) :: Store___init___1_1
noncomputable abbrev Store___init__ : List MS := Store___init___1_0
noncomputable def Store_get_1_0 : List MS := [.ret (.loc 2)]
noncomputable def Store_get_2_0 : List MS := [.ret (.call (.con (.ref A.f_all_z)) [.attr (.loc 3) 49])]
noncomputable def Store_get_3_4 : List MS := [.ret (.call (.con (.ref A.f_all_x)) [.attr (.loc 3) 49])]
noncomputable def Store_get_3_3 : List MS := .ite (.meth (.loc 3) 55 []) Store_get_2_0 [] :: Store_get_3_4
noncomputable def Store_get_3_2 : List MS := .asg (.nm 3) (.item (.attr (.loc 0) 48) (.loc 1)) :: Store_get_3_3
noncomputable def Store_get_3_1 : List MS := .ite (.cmp .IsNot (.loc 2) .none) Store_get_1_0 [] :: Store_get_3_2
noncomputable def Store_get_3_0 : List MS := .asg (.nm 2) (.meth (.attr (.loc 0) 52) 3 [.loc 1]) :: Store_get_3_1
noncomputable abbrev Store_get : List MS := Store_get_3_0
noncomputable def Store_set_bits_1_0 : List MS := [.ret (.bool false)]
noncomputable def Store_set_bits_2_4 : List MS := [.ret (.bool true)]
noncomputable def Store_set_bits_2_3 : List MS := .asg (.item (.attr (.loc 0) 52) (.loc 1)) (.loc 6) :: Store_set_bits_2_4
noncomputable def Store_set_bits_2_2 : List MS := .ite (.cmp .Eq (.loc 6) (.loc 5)) Store_set_bits_1_0 [] :: Store_set_bits_2_3
noncomputable def Store_set_bits_2_1 : List MS := .asg (.nm 6) (.call (.con (.ref A.f_put_slice)) [.loc 5, .loc 3, .loc 4]) :: Store_set_bits_2_2
noncomputable def Store_set_bits_2_0 : List MS := .asg (.nm 5) (.meth (.loc 0) 3 [.loc 1]) :: Store_set_bits_2_1
noncomputable def Store_set_bits_3_0 : List MS := [.ret (.bool false)]
noncomputable def Store_set_bits_4_0 : List MS := [.ret (.bool false)]
noncomputable def Store_set_bits_5_0 : List MS := [.asg (.item (.attr (.loc 0) 53) (.loc 1)) .dI]
noncomputable def Store_set_bits_6_7 : List MS := [.ret (.bool true)]
noncomputable def Store_set_bits_6_6 : List MS := .asg (.item (.item (.attr (.loc 0) 53) (.loc 1)) (.loc 2)) (.loc 6) :: Store_set_bits_6_7
noncomputable def Store_set_bits_6_5 : List MS := .ite (.cmp .NotIn (.loc 1) (.attr (.loc 0) 53)) Store_set_bits_5_0 [] :: Store_set_bits_6_6
noncomputable def Store_set_bits_6_4 : List MS := .ite (.cmp .Eq (.loc 6) (.loc 5)) Store_set_bits_4_0 [] :: Store_set_bits_6_5
noncomputable def Store_set_bits_6_3 : List MS := .asg (.nm 6) (.call (.con (.ref A.f_put_slice)) [.loc 5, .loc 3, .loc 4]) :: Store_set_bits_6_4
noncomputable def Store_set_bits_6_2 : List MS := .asg (.nm 5) (.meth (.loc 0) 41 [.loc 1, .loc 2]) :: Store_set_bits_6_3
noncomputable def Store_set_bits_6_1 : List MS := .ite (.or [.cmp .Lt (.loc 2) (.int 0), .cmp .GtE (.loc 2) (.meth (.item (.attr (.loc 0) 48) (.loc 1)) 56 [])]) Store_set_bits_3_0 [] :: Store_set_bits_6_2
noncomputable def Store_set_bits_6_0 : List MS := .ite (.cmp .Is (.loc 2) .none) Store_set_bits_2_0 [] :: Store_set_bits_6_1
noncomputable abbrev Store_set_bits : List MS := Store_set_bits_6_0
noncomputable def Context___init___1_2 : List MS := [.asg (.attr (.loc 0) 57) (.loc 3)]
noncomputable def Context___init___1_1 : List MS := .asg (.attr (.loc 0) 35) (.loc 2) :: Context___init___1_2
noncomputable def Context___init___1_0 : List MS := .asg (.attr (.loc 0) 33) (.loc 1) :: Context___init___1_1
noncomputable abbrev Context___init__ : List MS := Context___init___1_0
noncomputable def FunctionContext___init___1_4 : List MS := [.asg (.attr (.loc 0) 62) .dI]
noncomputable def FunctionContext___init___1_3 : List MS := .asg (.attr (.loc 0) 61) (.int 0) :: FunctionContext___init___1_4
noncomputable def FunctionContext___init___1_2 : List MS := .asg (.attr (.loc 0) 60) (.loc 5) :: FunctionContext___init___1_3
noncomputable def FunctionContext___init___1_1 : List MS := .asg (.attr (.loc 0) 59) (.loc 1) :: FunctionContext___init___1_2
noncomputable def FunctionContext___init___1_0 : List MS := .expr (.meth (.con (.ref A.c_Context)) 58 [.loc 0, .loc 2, .loc 3, .loc 4]) :: FunctionContext___init___1_1
noncomputable abbrev FunctionContext___init__ : List MS := FunctionContext___init___1_0
noncomputable def FunctionContext_call_1_0 : List MS := [.rse (.call (.con (.ref A.c_LimitReached)) [.sym 63])]
noncomputable def FunctionContext_call_2_1 : List MS := [.asg (.nm 5) (.item (.attr (.loc 0) 35) (.int 0))]
noncomputable def FunctionContext_call_2_0 : List MS := .expr (.call (.con (.ref A.f_run_statement)) [.attr (.loc 3) 66, .loc 0]) :: FunctionContext_call_2_1
noncomputable def FunctionContext_call_3_1 : List MS := [.aug (.attr (.loc 0) 61) .Sub (.int 1)]
noncomputable def FunctionContext_call_3_0 : List MS := .asg (.attr (.loc 0) 35) (.loc 4) :: FunctionContext_call_3_1
noncomputable def FunctionContext_call_4_6 : List MS := [.ret (.loc 5)]
noncomputable def FunctionContext_call_4_5 : List MS := .tryF FunctionContext_call_2_0 FunctionContext_call_3_0 :: FunctionContext_call_4_6
noncomputable def FunctionContext_call_4_4 : List MS := .aug (.attr (.loc 0) 61) .Add (.int 1) :: FunctionContext_call_4_5
noncomputable def FunctionContext_call_4_3 : List MS := .asg (.attr (.loc 0) 35) (.meth (.loc 0) 65 [.loc 3, .loc 2]) :: FunctionContext_call_4_4
noncomputable def FunctionContext_call_4_2 : List MS := .asg (.nm 4) (.attr (.loc 0) 35) :: FunctionContext_call_4_3
noncomputable def FunctionContext_call_4_1 : List MS := .asg (.nm 3) (.meth (.attr (.loc 0) 59) 64 [.loc 1]) :: FunctionContext_call_4_2
noncomputable def FunctionContext_call_4_0 : List MS := .ite (.cmp .GtE (.attr (.loc 0) 61) (.gint 24)) FunctionContext_call_1_0 [] :: FunctionContext_call_4_1
noncomputable abbrev FunctionContext_call : List MS := FunctionContext_call_4_0
noncomputable def FunctionContext_new_frame_1_0 : List MS := [.asg (.item (.loc 3) (.loc 9)) (.call (.con (.ref A.f_extend)) [.item (.loc 2) (.loc 4), .loc 6, .loc 7])]
noncomputable def FunctionContext_new_frame_2_0 : List MS := [.asg (.item (.attr (.loc 0) 62) (.loc 9)) (.bool true)]
noncomputable def FunctionContext_new_frame_3_0 : List MS := [.ite (.meth (.attr (.loc 0) 33) 51 [.loc 9, .none, .int 0, .call (.con (.ref A.f_extend)) [.item (.loc 2) (.loc 4), .loc 6, .loc 7]]) FunctionContext_new_frame_2_0 []]
noncomputable def FunctionContext_new_frame_4_1 : List MS := [.aug (.nm 4) .Add (.int 1)]
noncomputable def FunctionContext_new_frame_4_0 : List MS := .ite (.cmp .Eq (.loc 8) (.sym 34)) FunctionContext_new_frame_1_0 FunctionContext_new_frame_3_0 :: FunctionContext_new_frame_4_1
noncomputable def FunctionContext_new_frame_5_0 : List MS := [.ite (.and [.cmp .Eq (.loc 5) (.sym 69), .cmp .Lt (.loc 4) (.call (.con (.builtin "len")) [.loc 2])]) FunctionContext_new_frame_4_0 []]
noncomputable def FunctionContext_new_frame_6_3 : List MS := [.ret (.loc 3)]
noncomputable def FunctionContext_new_frame_6_2 : List MS := .for (.tup [5, 6, 7, 8, 9]) .exp (.attr (.loc 1) 68) .none FunctionContext_new_frame_5_0 :: FunctionContext_new_frame_6_3
noncomputable def FunctionContext_new_frame_6_1 : List MS := .asg (.nm 4) (.int 0) :: FunctionContext_new_frame_6_2
noncomputable def FunctionContext_new_frame_6_0 : List MS := .asg (.nm 3) (.comp (.call (.con (.ref A.f_all_x)) [.loc 10]) [10] true .exp (.attr (.loc 1) 67) .none []) :: FunctionContext_new_frame_6_1
noncomputable abbrev FunctionContext_new_frame : List MS := FunctionContext_new_frame_6_0
noncomputable def FunctionContext_burn_1_0 : List MS := [.rse (.call (.con (.ref A.c_LimitReached)) [.sym 70])]
noncomputable def FunctionContext_burn_2_1 : List MS := [.aug (.attr (.loc 0) 60) .Sub (.int 1)]
noncomputable def FunctionContext_burn_2_0 : List MS := .ite (.cmp .LtE (.attr (.loc 0) 60) (.int 0)) FunctionContext_burn_1_0 [] :: FunctionContext_burn_2_1
noncomputable abbrev FunctionContext_burn : List MS := FunctionContext_burn_2_0
noncomputable def FunctionContext_is_true_1_0 : List MS := [.ret (.cmp .Eq (.call (.con (.ref A.f_truth)) [.call (.con (.ref A.f_evaluate)) [.loc 1, .loc 0]]) (.int 1))]
noncomputable abbrev FunctionContext_is_true : List MS := FunctionContext_is_true_1_0
noncomputable def run_block_1_0 : List MS := [.ret .none]
noncomputable def run_block_2_1 : List MS := [.ret (.loc 3)]
noncomputable def run_block_2_0 : List MS := .ite (.cmp .Eq (.loc 3) (.item (.loc 0) (.int 2))) run_block_1_0 [] :: run_block_2_1
noncomputable def run_block_3_1 : List MS := [.ite (.cmp .IsNot (.loc 3) .none) run_block_2_0 []]
noncomputable def run_block_3_0 : List MS := .asg (.nm 3) (.call (.con (.ref A.f_run_statement)) [.loc 2, .loc 1]) :: run_block_3_1
noncomputable def run_block_4_1 : List MS := [.ret .none]
noncomputable def run_block_4_0 : List MS := .for (.nm 2) .exp (.item (.loc 0) (.int 1)) .none run_block_3_0 :: run_block_4_1
noncomputable abbrev run_block : List MS := run_block_4_0
noncomputable def run_set_1_0 : List MS := [.rse (.call (.con (.ref A.c_DesignError)) [.sym 71])]
noncomputable def run_set_2_0 : List MS := [.asg (.item (.attr (.loc 1) 62) (.loc 3)) (.bool true)]
noncomputable def run_set_3_3 : List MS := [.ret .none]
noncomputable def run_set_3_2 : List MS := .for (.nm 3) .exp (.call (.con (.ref A.f_store_rows)) [.call (.con (.ref A.f_resolve_target)) [.item (.loc 0) (.int 1), .loc 1], .loc 2, .loc 1]) .none run_set_2_0 :: run_set_3_3
noncomputable def run_set_3_1 : List MS := .asg (.nm 2) (.call (.con (.ref A.f_evaluate)) [.item (.loc 0) (.int 2), .loc 1]) :: run_set_3_2
noncomputable def run_set_3_0 : List MS := .ite (.cmp .IsNot (.item (.loc 0) (.int 3)) .none) run_set_1_0 [] :: run_set_3_1
noncomputable abbrev run_set : List MS := run_set_3_0
noncomputable def run_while_1_0 : List MS := [.ret (.loc 4)]
noncomputable def run_while_2_3 : List MS := [.expr (.call (.con (.ref A.f_run_statement)) [.loc 2, .loc 3])]
noncomputable def run_while_2_2 : List MS := .ite (.cmp .IsNot (.loc 4) .none) run_while_1_0 [] :: run_while_2_3
noncomputable def run_while_2_1 : List MS := .asg (.nm 4) (.call (.con (.ref A.f_run_statement)) [.loc 1, .loc 3]) :: run_while_2_2
noncomputable def run_while_2_0 : List MS := .expr (.meth (.loc 3) 73 []) :: run_while_2_1
noncomputable def run_while_3_1 : List MS := [.ret .none]
noncomputable def run_while_3_0 : List MS := .whl (.or [.cmp .Is (.loc 0) .none, .meth (.loc 3) 72 [.loc 0]]) run_while_2_0 :: run_while_3_1
noncomputable abbrev run_while : List MS := run_while_3_0
noncomputable def run_statement_1_0 : List MS := [.ret .none]
noncomputable def run_statement_2_0 : List MS := [.ret (.call (.con (.ref A.f_run_set)) [.loc 0, .loc 1])]
noncomputable def run_statement_3_0 : List MS := [.ret (.call (.con (.ref A.f_run_block)) [.loc 0, .loc 1])]
noncomputable def run_statement_4_0 : List MS := [.ret (.call (.con (.ref A.f_run_statement)) [.item (.loc 0) (.int 2), .loc 1])]
noncomputable def run_statement_5_1 : List MS := [.ret (.call (.con (.ref A.f_run_statement)) [.item (.loc 0) (.int 3), .loc 1])]
noncomputable def run_statement_5_0 : List MS := .ite (.meth (.loc 1) 72 [.item (.loc 0) (.int 1)]) run_statement_4_0 [] :: run_statement_5_1
noncomputable def run_statement_6_0 : List MS := [.ret (.call (.con (.ref A.f_run_case)) [.loc 0, .loc 1])]
noncomputable def run_statement_7_0 : List MS := [.ret (.call (.con (.ref A.f_run_for)) [.loc 0, .loc 1])]
noncomputable def run_statement_8_0 : List MS := [.ret (.call (.con (.ref A.f_run_while)) [.item (.loc 0) (.int 1), .item (.loc 0) (.int 2), .none, .loc 1])]
noncomputable def run_statement_9_0 : List MS := [.ret (.call (.con (.ref A.f_run_repeat)) [.loc 0, .loc 1])]
noncomputable def run_statement_10_0 : List MS := [.ret (.call (.con (.ref A.f_run_while)) [.none, .item (.loc 0) (.int 1), .none, .loc 1])]
noncomputable def run_statement_11_0 : List MS := [.ret (.item (.loc 0) (.int 1))]
noncomputable def run_statement_12_12 : List MS := [.rse (.call (.con (.ref A.c_DesignError)) [.sym 83, .neg (.int 1), .loc 2])]
noncomputable def run_statement_12_11 : List MS := .ite (.cmp .Eq (.loc 2) (.sym 82)) run_statement_11_0 [] :: run_statement_12_12
noncomputable def run_statement_12_10 : List MS := .ite (.cmp .Eq (.loc 2) (.sym 81)) run_statement_10_0 [] :: run_statement_12_11
noncomputable def run_statement_12_9 : List MS := .ite (.cmp .Eq (.loc 2) (.sym 80)) run_statement_9_0 [] :: run_statement_12_10
noncomputable def run_statement_12_8 : List MS := .ite (.cmp .Eq (.loc 2) (.sym 79)) run_statement_8_0 [] :: run_statement_12_9
noncomputable def run_statement_12_7 : List MS := .ite (.cmp .Eq (.loc 2) (.sym 78)) run_statement_7_0 [] :: run_statement_12_8
noncomputable def run_statement_12_6 : List MS := .ite (.cmp .Eq (.loc 2) (.sym 77)) run_statement_6_0 [] :: run_statement_12_7
noncomputable def run_statement_12_5 : List MS := .ite (.cmp .Eq (.loc 2) (.sym 76)) run_statement_5_0 [] :: run_statement_12_6
noncomputable def run_statement_12_4 : List MS := .ite (.cmp .Eq (.loc 2) (.sym 75)) run_statement_3_0 [] :: run_statement_12_5
noncomputable def run_statement_12_3 : List MS := .ite (.cmp .Eq (.loc 2) (.sym 74)) run_statement_2_0 [] :: run_statement_12_4
noncomputable def run_statement_12_2 : List MS := .asg (.nm 2) (.item (.loc 0) (.int 0)) :: run_statement_12_3
noncomputable def run_statement_12_1 : List MS := .expr (.meth (.loc 1) 73 []) :: run_statement_12_2
noncomputable def run_statement_12_0 : List MS := .ite (.cmp .Is (.loc 0) .none) run_statement_1_0 [] :: run_statement_12_1
noncomputable abbrev run_statement : List MS := run_statement_12_0
noncomputable def net_kinds_1_0 : List MS := [.ret (.tup [.sym 84, .sym 85, .sym 86, .sym 87, .sym 88, .sym 89, .sym 90, .sym 91, .sym 92])]
noncomputable abbrev net_kinds : List MS := net_kinds_1_0
noncomputable def Signal___init___1_11 : List MS := [.asg (.attr (.loc 0) 101) (.bool false)]
noncomputable def Signal___init___1_10 : List MS := .asg (.attr (.loc 0) 5) (.neg (.int 1)) :: Signal___init___1_11
noncomputable def Signal___init___1_9 : List MS := .asg (.attr (.loc 0) 100) .none :: Signal___init___1_10
noncomputable def Signal___init___1_8 : List MS := .asg (.attr (.loc 0) 99) .none :: Signal___init___1_9
noncomputable def Signal___init___1_7 : List MS := .asg (.attr (.loc 0) 98) .none :: Signal___init___1_8
noncomputable def Signal___init___1_6 : List MS := .asg (.attr (.loc 0) 97) (.loc 7) :: Signal___init___1_7
noncomputable def Signal___init___1_5 : List MS := .asg (.attr (.loc 0) 96) (.loc 6) :: Signal___init___1_6
noncomputable def Signal___init___1_4 : List MS := .asg (.attr (.loc 0) 95) (.loc 5) :: Signal___init___1_5
noncomputable def Signal___init___1_3 : List MS := .asg (.attr (.loc 0) 49) (.loc 4) :: Signal___init___1_4
noncomputable def Signal___init___1_2 : List MS := .asg (.attr (.loc 0) 4) (.loc 3) :: Signal___init___1_3
noncomputable def Signal___init___1_1 : List MS := .asg (.attr (.loc 0) 94) (.loc 2) :: Signal___init___1_2
noncomputable def Signal___init___1_0 : List MS := .asg (.attr (.loc 0) 93) (.loc 1) :: Signal___init___1_1
noncomputable abbrev Signal___init__ : List MS := Signal___init___1_0
noncomputable def Signal_is_net_1_0 : List MS := [.ret (.cmp .In (.attr (.loc 0) 4) (.call (.con (.ref A.f_net_kinds)) []))]
noncomputable abbrev Signal_is_net : List MS := Signal_is_net_1_0
noncomputable def Routine___init___1_13 : List MS := [.asg (.attr (.loc 0) 108) (.bool false)]
noncomputable def Routine___init___1_12 : List MS := .asg (.attr (.loc 0) 107) (.neg (.int 1)) :: Routine___init___1_13
noncomputable def Routine___init___1_11 : List MS := .asg (.attr (.loc 0) 106) .none :: Routine___init___1_12
noncomputable def Routine___init___1_10 : List MS := .asg (.attr (.loc 0) 105) .none :: Routine___init___1_11
noncomputable def Routine___init___1_9 : List MS := .asg (.attr (.loc 0) 66) .none :: Routine___init___1_10
noncomputable def Routine___init___1_8 : List MS := .asg (.attr (.loc 0) 67) (.list []) :: Routine___init___1_9
noncomputable def Routine___init___1_7 : List MS := .asg (.attr (.loc 0) 68) (.list []) :: Routine___init___1_8
noncomputable def Routine___init___1_6 : List MS := .asg (.attr (.loc 0) 95) (.bool false) :: Routine___init___1_7
noncomputable def Routine___init___1_5 : List MS := .asg (.attr (.loc 0) 49) (.int 1) :: Routine___init___1_6
noncomputable def Routine___init___1_4 : List MS := .asg (.attr (.loc 0) 5) (.loc 5) :: Routine___init___1_5
noncomputable def Routine___init___1_3 : List MS := .asg (.attr (.loc 0) 104) (.loc 4) :: Routine___init___1_4
noncomputable def Routine___init___1_2 : List MS := .asg (.attr (.loc 0) 103) (.loc 3) :: Routine___init___1_3
noncomputable def Routine___init___1_1 : List MS := .asg (.attr (.loc 0) 94) (.loc 2) :: Routine___init___1_2
noncomputable def Routine___init___1_0 : List MS := .asg (.attr (.loc 0) 102) (.loc 1) :: Routine___init___1_1
noncomputable abbrev Routine___init__ : List MS := Routine___init___1_0
noncomputable def Design___init___1_10 : List MS := [.asg (.attr (.loc 0) 117) .dS]
noncomputable def Design___init___1_9 : List MS := .asg (.attr (.loc 0) 116) .none :: Design___init___1_10
noncomputable def Design___init___1_8 : List MS := .asg (.attr (.loc 0) 68) (.list []) :: Design___init___1_9
noncomputable def Design___init___1_7 : List MS := .asg (.attr (.loc 0) 115) (.list []) :: Design___init___1_8
noncomputable def Design___init___1_6 : List MS := .asg (.attr (.loc 0) 114) (.list []) :: Design___init___1_7
noncomputable def Design___init___1_5 : List MS := .asg (.attr (.loc 0) 113) (.list []) :: Design___init___1_6
noncomputable def Design___init___1_4 : List MS := .asg (.attr (.loc 0) 112) (.list []) :: Design___init___1_5
noncomputable def Design___init___1_3 : List MS := .asg (.attr (.loc 0) 111) (.list []) :: Design___init___1_4
noncomputable def Design___init___1_2 : List MS := .asg (.attr (.loc 0) 110) (.list []) :: Design___init___1_3
noncomputable def Design___init___1_1 : List MS := .asg (.attr (.loc 0) 109) (.list []) :: Design___init___1_2
noncomputable def Design___init___1_0 : List MS := .asg (.attr (.loc 0) 48) (.list []) :: Design___init___1_1
noncomputable abbrev Design___init__ : List MS := Design___init___1_0
noncomputable def Design_add_signal_1_4 : List MS := [.ret (.loc 8)]
noncomputable def Design_add_signal_1_3 : List MS := .asg (.item (.attr (.loc 0) 117) (.loc 1)) (.attr (.loc 8) 93) :: Design_add_signal_1_4
noncomputable def Design_add_signal_1_2 : List MS := .expr (.meth (.attr (.loc 0) 48) 0 [.loc 8]) :: Design_add_signal_1_3
noncomputable def Design_add_signal_1_1 : List MS := .asg (.attr (.loc 8) 5) (.loc 7) :: Design_add_signal_1_2
noncomputable def Design_add_signal_1_0 : List MS := .asg (.nm 8) (.call (.con (.ref A.c_Signal)) [.call (.con (.builtin "len")) [.attr (.loc 0) 48], .loc 1, .loc 2, .loc 3, .loc 4, .loc 5, .loc 6]) :: Design_add_signal_1_1
noncomputable abbrev Design_add_signal : List MS := Design_add_signal_1_0
noncomputable def Design_add_routine_1_2 : List MS := [.ret (.loc 5)]
noncomputable def Design_add_routine_1_1 : List MS := .expr (.meth (.attr (.loc 0) 113) 0 [.loc 5]) :: Design_add_routine_1_2
noncomputable def Design_add_routine_1_0 : List MS := .asg (.nm 5) (.call (.con (.ref A.c_Routine)) [.call (.con (.builtin "len")) [.attr (.loc 0) 113], .loc 1, .loc 2, .loc 3, .loc 4]) :: Design_add_routine_1_1
noncomputable abbrev Design_add_routine : List MS := Design_add_routine_1_0
noncomputable def Design_routine_1_0 : List MS := [.expr (.meth (.attr (.loc 0) 116) 118 [.loc 1])]
noncomputable def Design_routine_2_1 : List MS := [.ite (.cmp .IsNot (.attr (.loc 0) 116) .none) Design_routine_1_0 []]
noncomputable def Design_routine_2_0 : List MS := .asg (.attr (.loc 2) 108) (.bool true) :: Design_routine_2_1
noncomputable def Design_routine_3_2 : List MS := [.ret (.loc 2)]
noncomputable def Design_routine_3_1 : List MS := .ite (.not (.attr (.loc 2) 108)) Design_routine_2_0 [] :: Design_routine_3_2
noncomputable def Design_routine_3_0 : List MS := .asg (.nm 2) (.item (.attr (.loc 0) 113) (.loc 1)) :: Design_routine_3_1
noncomputable abbrev Design_routine : List MS := Design_routine_3_0
noncomputable def xlaw_row_1_1 : List MS := [.asg (.nm 3) (.bin .FloorDiv (.loc 3) (.int 1024))]
noncomputable def xlaw_row_1_0 : List MS := .expr (.meth (.loc 1) 0 [.bin .Mod (.loc 3) (.int 1024)]) :: xlaw_row_1_1
noncomputable def xlaw_row_2_0 : List MS := [.ite (.cmp .Gt (.loc 3) (.int 0)) xlaw_row_1_0 []]
noncomputable def xlaw_row_3_3 : List MS := [.for (.nm 4) .range (.int 30) .none xlaw_row_2_0]
noncomputable def xlaw_row_3_2 : List MS := .asg (.nm 3) (.bin .FloorDiv (.loc 3) (.int 1024)) :: xlaw_row_3_3
noncomputable def xlaw_row_3_1 : List MS := .expr (.meth (.loc 1) 0 [.bin .Mod (.loc 3) (.int 1024)]) :: xlaw_row_3_2
noncomputable def xlaw_row_3_0 : List MS := .asg (.nm 3) (.ite (.cmp .GtE (.loc 2) (.int 0)) (.loc 2) (.bin .Sub (.int 7) (.loc 2))) :: xlaw_row_3_1
noncomputable def xlaw_row_4_4 : List MS := [.ret (.loc 1)]
noncomputable def xlaw_row_4_3 : List MS := .expr (.meth (.loc 1) 2 []) :: xlaw_row_4_4
noncomputable def xlaw_row_4_2 : List MS := .asg (.nm 1) (.slice (.loc 1) .none (.int 160)) :: xlaw_row_4_3
noncomputable def xlaw_row_4_1 : List MS := .for (.nm 2) .exp (.slice (.loc 0) .none (.int 40)) .none xlaw_row_3_0 :: xlaw_row_4_2
noncomputable def xlaw_row_4_0 : List MS := .asg (.nm 1) (.list []) :: xlaw_row_4_1
noncomputable abbrev xlaw_row : List MS := xlaw_row_4_0
noncomputable def xlaw_next_1_0 : List MS := [.ret (.ite (.cmp .NotEq (.loc 0) (.list [])) (.meth (.loc 0) 1 []) (.int 0))]
noncomputable abbrev xlaw_next : List MS := xlaw_next_1_0
noncomputable def xlaw_bits_1_1 : List MS := [.asg (.nm 4) (.bin .FloorDiv (.loc 4) (.int 4))]
noncomputable def xlaw_bits_1_0 : List MS := .expr (.meth (.loc 2) 0 [.bin .Mod (.loc 4) (.int 4)]) :: xlaw_bits_1_1
noncomputable def xlaw_bits_2_1 : List MS := [.for (.nm 5) .range (.int 5) .none xlaw_bits_1_0]
noncomputable def xlaw_bits_2_0 : List MS := .asg (.nm 4) (.call (.con (.ref A.f__law_next)) [.loc 0]) :: xlaw_bits_2_1
noncomputable def xlaw_bits_3_2 : List MS := [.ret (.slice (.loc 2) .none (.loc 1))]
noncomputable def xlaw_bits_3_1 : List MS := .for (.nm 3) .range (.bin .FloorDiv (.bin .Add (.loc 1) (.int 4)) (.int 5)) .none xlaw_bits_2_0 :: xlaw_bits_3_2
noncomputable def xlaw_bits_3_0 : List MS := .asg (.nm 2) (.list []) :: xlaw_bits_3_1
noncomputable abbrev xlaw_bits : List MS := xlaw_bits_3_0
noncomputable def xlaw_made_1_1 : List MS := [.aug (.nm 2) .Add (.bin .Mult (.bin .FloorDiv (.item (.loc 0) (.loc 3)) (.int 2)) (.bin .Pow (.int 2) (.loc 3)))]
noncomputable def xlaw_made_1_0 : List MS := .aug (.nm 1) .Add (.bin .Mult (.bin .Mod (.item (.loc 0) (.loc 3)) (.int 2)) (.bin .Pow (.int 2) (.loc 3))) :: xlaw_made_1_1
noncomputable def xlaw_made_2_3 : List MS := [.ret (.tup [.call (.con (.builtin "len")) [.loc 0], .loc 1, .loc 2])]
noncomputable def xlaw_made_2_2 : List MS := .for (.nm 3) .range (.call (.con (.builtin "len")) [.loc 0]) .none xlaw_made_1_0 :: xlaw_made_2_3
noncomputable def xlaw_made_2_1 : List MS := .asg (.nm 2) (.int 0) :: xlaw_made_2_2
noncomputable def xlaw_made_2_0 : List MS := .asg (.nm 1) (.int 0) :: xlaw_made_2_1
noncomputable abbrev xlaw_made : List MS := xlaw_made_2_0
noncomputable def xlaw_lv_1_0 : List MS := [.ret (.tup [.sym 119, .loc 1, .tup [.tup [.loc 0, .loc 1, .loc 2, .none, .tup [.sym 5, .int 0]]]])]
noncomputable abbrev xlaw_lv : List MS := xlaw_lv_1_0
noncomputable def xlaw_function_1_5 : List MS := [.ret (.attr (.loc 4) 102)]
noncomputable def xlaw_function_1_4 : List MS := .asg (.attr (.loc 4) 108) (.bool true) :: xlaw_function_1_5
noncomputable def xlaw_function_1_3 : List MS := .asg (.attr (.loc 4) 66) (.loc 1) :: xlaw_function_1_4
noncomputable def xlaw_function_1_2 : List MS := .asg (.attr (.loc 4) 68) (.loc 2) :: xlaw_function_1_3
noncomputable def xlaw_function_1_1 : List MS := .asg (.attr (.loc 4) 67) (.loc 3) :: xlaw_function_1_2
noncomputable def xlaw_function_1_0 : List MS := .asg (.nm 4) (.meth (.loc 0) 120 [.bin .Add (.sym 121) (.call (.con (.type "str")) [.call (.con (.builtin "len")) [.attr (.loc 0) 113]]), .bool true, .bool true, .neg (.int 1)]) :: xlaw_function_1_1
noncomputable abbrev xlaw_function : List MS := xlaw_function_1_0
noncomputable def xlaw_refused_1_0 : List MS := [.expr (.meth (.loc 0) 45 [.loc 1, .loc 2])]
noncomputable def xlaw_refused_2_0 : List MS := [.ret (.attr (.loc 3) 4)]
noncomputable def xlaw_refused_3_1 : List MS := [.ret (.sym 122)]
noncomputable def xlaw_refused_3_0 : List MS := .tryX xlaw_refused_1_0 (.tup [.con (.ref A.c_DesignError), .con (.ref A.c_LimitReached)]) 3 xlaw_refused_2_0 :: xlaw_refused_3_1
noncomputable abbrev xlaw_refused : List MS := xlaw_refused_3_0
noncomputable def law_1_0 : List MS := [.expr (.meth (.loc 2) 125 [.loc 9, .sym 126, .loc 10, .bool false, .bin .Sub (.loc 10) (.int 1), .int 0, .neg (.int 1)])]
noncomputable def law_2_0 : List MS := [.ret (.bool false)]
noncomputable def law_3_0 : List MS := [.ret (.bool false)]
noncomputable def law_4_0 : List MS := [.ret (.bool false)]
noncomputable def law_5_0 : List MS := [.ret (.bool false)]
noncomputable def law_6_0 : List MS := [.ite (.cmp .NotEq (.call (.con (.ref A.f__law_refused)) [.loc 19, .call (.con (.ref A.f__law_function)) [.loc 2, .tup [.sym 75, .tup [.none, .loc 24], .neg (.int 1)], .list [], .list [.int 4, .int 4]], .list []]) (.sym 83)) law_5_0 []]
noncomputable def law_7_0 : List MS := [.ret (.bool false)]
noncomputable def law_8_36 : List MS := [.ret (.and [.cmp .Eq (.attr (.loc 19) 61) (.loc 26), .cmp .Eq (.attr (.loc 19) 35) (.list [])])]
noncomputable def law_8_35 : List MS := .ite (.cmp .NotEq (.call (.con (.ref A.f__law_refused)) [.loc 19, .loc 18, .list []]) (.ite (.cmp .GtE (.loc 25) (.bin .Sub (.int 24) (.loc 26))) (.sym 63) (.sym 70))) law_7_0 [] :: law_8_36
noncomputable def law_8_34 : List MS := .asg (.attr (.loc 19) 61) (.loc 26) :: law_8_35
noncomputable def law_8_33 : List MS := .asg (.nm 19) (.call (.con (.ref A.c_FunctionContext)) [.loc 2, .loc 11, .list [], .int 0, .loc 25]) :: law_8_34
noncomputable def law_8_32 : List MS := .asg (.attr (.item (.attr (.loc 2) 113) (.loc 18)) 66) (.tup [.sym 74, .call (.con (.ref A.f__law_lv)) [.sym 34, .int 4, .int 0], .tup [.sym 45, .int 4, .loc 18, .tup []], .none]) :: law_8_33
noncomputable def law_8_31 : List MS := .asg (.nm 18) (.call (.con (.ref A.f__law_function)) [.loc 2, .none, .list [], .list [.int 4]]) :: law_8_32
noncomputable def law_8_30 : List MS := .asg (.nm 26) (.bin .Add (.int 20) (.bin .Mod (.call (.con (.ref A.f__law_next)) [.loc 1]) (.int 6))) :: law_8_31
noncomputable def law_8_29 : List MS := .asg (.nm 25) (.bin .Mod (.call (.con (.ref A.f__law_next)) [.loc 1]) (.int 8)) :: law_8_30
noncomputable def law_8_28 : List MS := .for (.nm 24) .exp (.list [.tup [.sym 127, .tup [.sym 31, .int 4, .int 1, .int 0], .none], .tup [.sym 128, .tup [.tup [.sym 129, .tup [.sym 32, .int 4, .int 1]]], .none], .tup [.sym 130, .tup [.sym 31, .int 1, .int 1, .int 0], .none], .tup [.sym 131, .call (.con (.ref A.f__law_lv)) [.sym 32, .int 4, .int 1], .tup [.sym 31, .int 4, .int 1, .int 0], .none], .tup [.sym 132, .int 0], .tup [.sym 45, .int 0, .tup [], .tup []], .tup [.sym 133, .tup [], .neg (.int 1)], .tup [.sym 46, .sym 134, .tup []]]) .none law_6_0 :: law_8_29
noncomputable def law_8_27 : List MS := .ite (.cmp .NotEq (.call (.con (.ref A.f__law_refused)) [.loc 19, .call (.con (.ref A.f__law_function)) [.loc 2, .loc 23, .list [], .list [.int 4, .int 4]], .list []]) (.sym 71)) law_4_0 [] :: law_8_28
noncomputable def law_8_26 : List MS := .asg (.nm 23) (.tup [.sym 74, .call (.con (.ref A.f__law_lv)) [.sym 34, .int 4, .int 0], .tup [.sym 31, .int 4, .int 1, .int 0], .tup [.sym 127, .tup [.sym 31, .int 4, .int 1, .int 0]]]) :: law_8_27
noncomputable def law_8_25 : List MS := .ite (.or [.cmp .NotEq (.meth (.loc 11) 3 [.int 0]) (.call (.con (.ref A.f__law_made)) [.loc 20]), .cmp .NotEq (.meth (.loc 11) 3 [.int 1]) (.call (.con (.ref A.f__law_made)) [.loc 21]), .cmp .NotEq (.call (.con (.builtin "sorted")) [.attr (.loc 19) 62]) (.loc 22)]) law_3_0 [] :: law_8_26
noncomputable def law_8_24 : List MS := .asg (.nm 22) (.bin .Add (.ite (.cmp .NotEq (.loc 20) (.loc 6)) (.list [.int 0]) (.list [])) (.ite (.cmp .NotEq (.loc 21) (.loc 7)) (.list [.int 1]) (.list []))) :: law_8_25
noncomputable def law_8_23 : List MS := .asg (.item (.loc 21) (.int 0)) (.ite (.cmp .Eq (.item (.loc 21) (.int 0)) (.int 3)) (.int 3) (.bin .Mod (.bin .Add (.item (.loc 21) (.int 0)) (.loc 8)) (.int 2))) :: law_8_24
noncomputable def law_8_22 : List MS := .asg (.nm 21) (.comp (.ite (.cmp .Gt (.loc 27) (.int 1)) (.int 3) (.loc 27)) [27] true .exp (.loc 7) .none []) :: law_8_23
noncomputable def law_8_21 : List MS := .asg (.nm 20) (.slice (.bin .Add (.loc 5) (.bin .Mult (.list [.ite (.loc 4) (.item (.loc 5) (.neg (.int 1))) (.int 0)]) (.loc 3))) .none (.loc 3)) :: law_8_22
noncomputable def law_8_20 : List MS := .ite (.cmp .NotEq (.meth (.loc 19) 45 [.loc 18, .list [.call (.con (.ref A.f__law_made)) [.loc 5]]]) (.tup [.int 4, .loc 8, .int 0])) law_2_0 [] :: law_8_21
noncomputable def law_8_19 : List MS := .asg (.nm 19) (.call (.con (.ref A.c_FunctionContext)) [.loc 2, .loc 11, .list [], .int 0]) :: law_8_20
noncomputable def law_8_18 : List MS := .asg (.nm 18) (.call (.con (.ref A.f__law_function)) [.loc 2, .tup [.sym 75, .tup [.loc 15, .loc 16, .loc 17], .neg (.int 1)], .list [.tup [.sym 69, .loc 3, .loc 4, .sym 32, .int 0]], .list [.int 4, .int 4]]) :: law_8_19
noncomputable def law_8_17 : List MS := .asg (.nm 17) (.tup [.sym 74, .call (.con (.ref A.f__law_lv)) [.sym 34, .int 4, .int 0], .tup [.sym 34, .int 4, .int 1], .none]) :: law_8_18
noncomputable def law_8_16 : List MS := .asg (.nm 16) (.tup [.sym 74, .call (.con (.ref A.f__law_lv)) [.sym 32, .int 4, .int 1], .tup [.sym 36, .int 4, .sym 26, .tup [.sym 32, .int 4, .int 1], .tup [.sym 31, .int 4, .bin .Mod (.loc 8) (.int 2), .int 0], .bool false], .none]) :: law_8_17
noncomputable def law_8_15 : List MS := .asg (.nm 15) (.tup [.sym 75, .tup [.loc 14, .tup [.sym 81, .tup [.sym 75, .tup [.loc 13, .loc 12], .neg (.int 1)]]], .int 7]) :: law_8_16
noncomputable def law_8_14 : List MS := .asg (.nm 14) (.tup [.sym 74, .call (.con (.ref A.f__law_lv)) [.sym 34, .int 4, .int 1], .tup [.sym 31, .int 4, .int 0, .int 0], .none]) :: law_8_15
noncomputable def law_8_13 : List MS := .asg (.nm 13) (.tup [.sym 76, .tup [.sym 36, .int 1, .sym 20, .tup [.sym 34, .int 4, .int 1], .tup [.sym 31, .int 4, .loc 8, .int 0], .bool false], .tup [.sym 82, .int 7], .none]) :: law_8_14
noncomputable def law_8_12 : List MS := .asg (.nm 12) (.tup [.sym 74, .call (.con (.ref A.f__law_lv)) [.sym 34, .int 4, .int 1], .tup [.sym 36, .int 4, .sym 7, .tup [.sym 34, .int 4, .int 1], .tup [.sym 31, .int 4, .int 1, .int 0], .bool false], .none]) :: law_8_13
noncomputable def law_8_11 : List MS := .expr (.meth (.loc 11) 51 [.int 1, .none, .int 0, .call (.con (.ref A.f__law_made)) [.loc 7]]) :: law_8_12
noncomputable def law_8_10 : List MS := .expr (.meth (.loc 11) 51 [.int 0, .none, .int 0, .call (.con (.ref A.f__law_made)) [.loc 6]]) :: law_8_11
noncomputable def law_8_9 : List MS := .asg (.nm 11) (.call (.con (.ref A.c_Store)) [.attr (.loc 2) 48]) :: law_8_10
noncomputable def law_8_8 : List MS := .for (.tup [9, 10]) .exp (.list [.tup [.sym 123, .loc 3], .tup [.sym 124, .int 4]]) .none law_1_0 :: law_8_9
noncomputable def law_8_7 : List MS := .asg (.nm 8) (.bin .Mod (.call (.con (.ref A.f__law_next)) [.loc 1]) (.int 12)) :: law_8_8
noncomputable def law_8_6 : List MS := .asg (.nm 7) (.call (.con (.ref A.f__law_bits)) [.loc 1, .int 4]) :: law_8_7
noncomputable def law_8_5 : List MS := .asg (.nm 6) (.call (.con (.ref A.f__law_bits)) [.loc 1, .loc 3]) :: law_8_6
noncomputable def law_8_4 : List MS := .asg (.nm 5) (.call (.con (.ref A.f__law_bits)) [.loc 1, .bin .Add (.int 1) (.bin .Mod (.call (.con (.ref A.f__law_next)) [.loc 1]) (.int 6))]) :: law_8_5
noncomputable def law_8_3 : List MS := .asg (.nm 4) (.cmp .Eq (.bin .Mod (.call (.con (.ref A.f__law_next)) [.loc 1]) (.int 2)) (.int 1)) :: law_8_4
noncomputable def law_8_2 : List MS := .asg (.nm 3) (.bin .Add (.int 1) (.bin .Mod (.call (.con (.ref A.f__law_next)) [.loc 1]) (.int 6))) :: law_8_3
noncomputable def law_8_1 : List MS := .asg (.nm 2) (.call (.con (.ref A.c_Design)) []) :: law_8_2
noncomputable def law_8_0 : List MS := .asg (.nm 1) (.call (.con (.ref A.f__law_row)) [.loc 0]) :: law_8_1
noncomputable abbrev law : List MS := law_8_0
end M
theorem ok_Store_48 : Tb.okAttr A.c_Store 48 = true := by decide
theorem ok_Store_52 : Tb.okAttr A.c_Store 52 = true := by decide
theorem ok_Store_53 : Tb.okAttr A.c_Store 53 = true := by decide
theorem ok_Store_54 : Tb.okAttr A.c_Store 54 = true := by decide
theorem ok_Context_33 : Tb.okAttr A.c_Context 33 = true := by decide
theorem ok_Context_35 : Tb.okAttr A.c_Context 35 = true := by decide
theorem ok_Context_57 : Tb.okAttr A.c_Context 57 = true := by decide
theorem ok_FunctionContext_33 : Tb.okAttr A.c_FunctionContext 33 = true := by decide
theorem ok_FunctionContext_35 : Tb.okAttr A.c_FunctionContext 35 = true := by decide
theorem ok_FunctionContext_57 : Tb.okAttr A.c_FunctionContext 57 = true := by decide
theorem ok_FunctionContext_59 : Tb.okAttr A.c_FunctionContext 59 = true := by decide
theorem ok_FunctionContext_60 : Tb.okAttr A.c_FunctionContext 60 = true := by decide
theorem ok_FunctionContext_61 : Tb.okAttr A.c_FunctionContext 61 = true := by decide
theorem ok_FunctionContext_62 : Tb.okAttr A.c_FunctionContext 62 = true := by decide
theorem ok_Signal_93 : Tb.okAttr A.c_Signal 93 = true := by decide
theorem ok_Signal_94 : Tb.okAttr A.c_Signal 94 = true := by decide
theorem ok_Signal_4 : Tb.okAttr A.c_Signal 4 = true := by decide
theorem ok_Signal_49 : Tb.okAttr A.c_Signal 49 = true := by decide
theorem ok_Signal_95 : Tb.okAttr A.c_Signal 95 = true := by decide
theorem ok_Signal_96 : Tb.okAttr A.c_Signal 96 = true := by decide
theorem ok_Signal_97 : Tb.okAttr A.c_Signal 97 = true := by decide
theorem ok_Signal_98 : Tb.okAttr A.c_Signal 98 = true := by decide
theorem ok_Signal_99 : Tb.okAttr A.c_Signal 99 = true := by decide
theorem ok_Signal_100 : Tb.okAttr A.c_Signal 100 = true := by decide
theorem ok_Signal_5 : Tb.okAttr A.c_Signal 5 = true := by decide
theorem ok_Signal_101 : Tb.okAttr A.c_Signal 101 = true := by decide
theorem ok_Routine_102 : Tb.okAttr A.c_Routine 102 = true := by decide
theorem ok_Routine_94 : Tb.okAttr A.c_Routine 94 = true := by decide
theorem ok_Routine_103 : Tb.okAttr A.c_Routine 103 = true := by decide
theorem ok_Routine_104 : Tb.okAttr A.c_Routine 104 = true := by decide
theorem ok_Routine_5 : Tb.okAttr A.c_Routine 5 = true := by decide
theorem ok_Routine_49 : Tb.okAttr A.c_Routine 49 = true := by decide
theorem ok_Routine_95 : Tb.okAttr A.c_Routine 95 = true := by decide
theorem ok_Routine_68 : Tb.okAttr A.c_Routine 68 = true := by decide
theorem ok_Routine_67 : Tb.okAttr A.c_Routine 67 = true := by decide
theorem ok_Routine_66 : Tb.okAttr A.c_Routine 66 = true := by decide
theorem ok_Routine_105 : Tb.okAttr A.c_Routine 105 = true := by decide
theorem ok_Routine_106 : Tb.okAttr A.c_Routine 106 = true := by decide
theorem ok_Routine_107 : Tb.okAttr A.c_Routine 107 = true := by decide
theorem ok_Routine_108 : Tb.okAttr A.c_Routine 108 = true := by decide
theorem ok_Design_48 : Tb.okAttr A.c_Design 48 = true := by decide
theorem ok_Design_109 : Tb.okAttr A.c_Design 109 = true := by decide
theorem ok_Design_110 : Tb.okAttr A.c_Design 110 = true := by decide
theorem ok_Design_111 : Tb.okAttr A.c_Design 111 = true := by decide
theorem ok_Design_112 : Tb.okAttr A.c_Design 112 = true := by decide
theorem ok_Design_113 : Tb.okAttr A.c_Design 113 = true := by decide
theorem ok_Design_114 : Tb.okAttr A.c_Design 114 = true := by decide
theorem ok_Design_115 : Tb.okAttr A.c_Design 115 = true := by decide
theorem ok_Design_68 : Tb.okAttr A.c_Design 68 = true := by decide
theorem ok_Design_116 : Tb.okAttr A.c_Design 116 = true := by decide
theorem ok_Design_117 : Tb.okAttr A.c_Design 117 = true := by decide
theorem ok_DesignError_4 : Tb.okExc A.c_DesignError 4 = true := by decide
theorem ok_DesignError_5 : Tb.okExc A.c_DesignError 5 = true := by decide
theorem ok_DesignError_6 : Tb.okExc A.c_DesignError 6 = true := by decide
theorem ok_LimitReached_4 : Tb.okExc A.c_LimitReached 4 = true := by decide
theorem ok_LimitReached_5 : Tb.okExc A.c_LimitReached 5 = true := by decide
theorem ok_LimitReached_6 : Tb.okExc A.c_LimitReached 6 = true := by decide
theorem me_Store_get : Tb.meths.lookup (A.c_Store, 3) = some A.f_Store_get := by decide
theorem me_Store_set_bits : Tb.meths.lookup (A.c_Store, 51) = some A.f_Store_set_bits := by decide
theorem me_FunctionContext_call : Tb.meths.lookup (A.c_FunctionContext, 45) = some A.f_FunctionContext_call := by decide
theorem me_FunctionContext_new_frame : Tb.meths.lookup (A.c_FunctionContext, 65) = some A.f_FunctionContext_new_frame := by decide
theorem me_FunctionContext_burn : Tb.meths.lookup (A.c_FunctionContext, 73) = some A.f_FunctionContext_burn := by decide
theorem me_FunctionContext_is_true : Tb.meths.lookup (A.c_FunctionContext, 72) = some A.f_FunctionContext_is_true := by decide
theorem me_Signal_is_net : Tb.meths.lookup (A.c_Signal, 55) = some A.f_Signal_is_net := by decide
theorem me_Design_add_signal : Tb.meths.lookup (A.c_Design, 125) = some A.f_Design_add_signal := by decide
theorem me_Design_add_routine : Tb.meths.lookup (A.c_Design, 120) = some A.f_Design_add_routine := by decide
theorem me_Design_routine : Tb.meths.lookup (A.c_Design, 64) = some A.f_Design_routine := by decide
theorem ca_Context : Tb.clsAttrs.lookup (A.c_Context, 58) = some A.f_Context___init__ := by decide
theorem su_GateloomError_GateloomError : Tb.subs.lookup (A.c_GateloomError, A.c_GateloomError) = some true := by decide
theorem su_GateloomError_DesignError : Tb.subs.lookup (A.c_GateloomError, A.c_DesignError) = some false := by decide
theorem su_GateloomError_LimitReached : Tb.subs.lookup (A.c_GateloomError, A.c_LimitReached) = some false := by decide
theorem su_DesignError_GateloomError : Tb.subs.lookup (A.c_DesignError, A.c_GateloomError) = some true := by decide
theorem su_DesignError_DesignError : Tb.subs.lookup (A.c_DesignError, A.c_DesignError) = some true := by decide
theorem su_DesignError_LimitReached : Tb.subs.lookup (A.c_DesignError, A.c_LimitReached) = some false := by decide
theorem su_LimitReached_GateloomError : Tb.subs.lookup (A.c_LimitReached, A.c_GateloomError) = some true := by decide
theorem su_LimitReached_DesignError : Tb.subs.lookup (A.c_LimitReached, A.c_DesignError) = some false := by decide
theorem su_LimitReached_LimitReached : Tb.subs.lookup (A.c_LimitReached, A.c_LimitReached) = some true := by decide
namespace F
noncomputable def GateloomError___init__ : FnT := ⟨A.f_GateloomError___init__, ["self", "kind", "at", "detail"], [.int (-1), .sym 122], 0, [("self", 0), ("kind", 1), ("at", 2), ("detail", 3)], M.GateloomError___init__⟩
noncomputable def mask : FnT := ⟨A.f_mask, ["w"], [], 0, [("w", 0)], M.mask⟩
noncomputable def vec : FnT := ⟨A.f_vec, ["w", "a", "b"], [.int 0], 1, [("w", 0), ("a", 1), ("b", 2), ("full", 3)], M.vec⟩
noncomputable def all_x : FnT := ⟨A.f_all_x, ["w"], [], 1, [("w", 0), ("full", 1)], M.all_x⟩
noncomputable def from_int : FnT := ⟨A.f_from_int, ["w", "n"], [], 0, [("w", 0), ("n", 1)], M.from_int⟩
noncomputable def is_known : FnT := ⟨A.f_is_known, ["v"], [], 0, [("v", 0)], M.is_known⟩
noncomputable def code : FnT := ⟨A.f_code, ["v", "i"], [], 0, [("v", 0), ("i", 1)], M.code⟩
noncomputable def slice_vec : FnT := ⟨A.f_slice_vec, ["v", "lo", "w"], [], 7, [("v", 0), ("lo", 1), ("w", 2), ("first", 3), ("last", 4), ("inner", 5), ("shift", 6), ("outside", 7), ("a", 8), ("b", 9)], M.slice_vec⟩
noncomputable def put_slice : FnT := ⟨A.f_put_slice, ["v", "lo", "part"], [], 7, [("v", 0), ("lo", 1), ("part", 2), ("first", 3), ("last", 4), ("inner", 5), ("skip", 6), ("keep", 7), ("a", 8), ("b", 9)], M.put_slice⟩
noncomputable def extend : FnT := ⟨A.f_extend, ["v", "w", "signed"], [], 4, [("v", 0), ("w", 1), ("signed", 2), ("fill", 3), ("top", 4), ("a", 5), ("b", 6)], M.extend⟩
noncomputable def truth : FnT := ⟨A.f_truth, ["v"], [], 0, [("v", 0)], M.truth⟩
noncomputable def add : FnT := ⟨A.f_add, ["u", "v"], [], 0, [("u", 0), ("v", 1)], M.add⟩
noncomputable def one_bit : FnT := ⟨A.f_one_bit, ["c"], [], 0, [("c", 0)], M.one_bit⟩
noncomputable def bit_xor : FnT := ⟨A.f_bit_xor, ["u", "v"], [], 1, [("u", 0), ("v", 1), ("b", 2)], M.bit_xor⟩
noncomputable def equal : FnT := ⟨A.f_equal, ["u", "v"], [], 1, [("u", 0), ("v", 1), ("unknown", 2)], M.equal⟩
noncomputable def arithmetic : FnT := ⟨A.f_arithmetic, ["op", "u", "v", "signed"], [], 0, [("op", 0), ("u", 1), ("v", 2), ("signed", 3)], M.arithmetic⟩
noncomputable def comparison : FnT := ⟨A.f_comparison, ["op", "u", "v", "signed"], [], 0, [("op", 0), ("u", 1), ("v", 2), ("signed", 3)], M.comparison⟩
noncomputable def bitwise : FnT := ⟨A.f_bitwise, ["op", "u", "v"], [], 0, [("op", 0), ("u", 1), ("v", 2)], M.bitwise⟩
noncomputable def binary : FnT := ⟨A.f_binary, ["op", "u", "v", "signed"], [], 1, [("op", 0), ("u", 1), ("v", 2), ("signed", 3), ("value", 4)], M.binary⟩
noncomputable def evaluate : FnT := ⟨A.f_evaluate, ["e", "ctx"], [], 3, [("e", 0), ("ctx", 1), ("tag", 2)], M.evaluate⟩
noncomputable def locate : FnT := ⟨A.f_locate, ["where", "ctx"], [], 1, [("where", 0), ("ctx", 1), ("index", 2)], M.locate⟩
noncomputable def holder_width : FnT := ⟨A.f_holder_width, ["part", "ctx"], [], 0, [("part", 0), ("ctx", 1)], M.holder_width⟩
noncomputable def resolve_target : FnT := ⟨A.f_resolve_target, ["lv", "ctx"], [], 11, [("lv", 0), ("ctx", 1), ("rows", 2), ("take", 3), ("part", 4), ("kind", 5), ("w", 6), ("ref", 7), ("word", 8), ("where", 9), ("place", 10), ("index", 11), ("lo", 12)], M.resolve_target⟩
noncomputable def store_rows : FnT := ⟨A.f_store_rows, ["rows", "value", "ctx"], [], 8, [("rows", 0), ("value", 1), ("ctx", 2), ("changed", 3), ("kind", 4), ("ref", 5), ("place", 6), ("lo", 7), ("w", 8), ("take", 9), ("piece", 10)], M.store_rows⟩
noncomputable def Store___init__ : FnT := ⟨A.f_Store___init__, ["self", "signals"], [], 0, [("self", 0), ("signals", 1)], M.Store___init__⟩
noncomputable def Store_get : FnT := ⟨A.f_Store_get, ["self", "key"], [], 2, [("self", 0), ("key", 1), ("value", 2), ("signal", 3)], M.Store_get⟩
noncomputable def Store_set_bits : FnT := ⟨A.f_Store_set_bits, ["self", "key", "place", "lo", "value"], [], 2, [("self", 0), ("key", 1), ("place", 2), ("lo", 3), ("value", 4), ("old", 5), ("new", 6)], M.Store_set_bits⟩
noncomputable def Context___init__ : FnT := ⟨A.f_Context___init__, ["self", "store", "frame", "now"], [.int 0], 0, [("self", 0), ("store", 1), ("frame", 2), ("now", 3)], M.Context___init__⟩
noncomputable def FunctionContext___init__ : FnT := ⟨A.f_FunctionContext___init__, ["self", "design", "store", "frame", "now", "fuel"], [.int 10000], 0, [("self", 0), ("design", 1), ("store", 2), ("frame", 3), ("now", 4), ("fuel", 5)], M.FunctionContext___init__⟩
noncomputable def FunctionContext_call : FnT := ⟨A.f_FunctionContext_call, ["self", "number", "args"], [], 3, [("self", 0), ("number", 1), ("args", 2), ("routine", 3), ("caller", 4), ("value", 5)], M.FunctionContext_call⟩
noncomputable def FunctionContext_new_frame : FnT := ⟨A.f_FunctionContext_new_frame, ["self", "routine", "args"], [], 8, [("self", 0), ("routine", 1), ("args", 2), ("frame", 3), ("at", 4), ("direction", 5), ("w", 6), ("signed", 7), ("kind", 8), ("ref", 9)], M.FunctionContext_new_frame⟩
noncomputable def FunctionContext_burn : FnT := ⟨A.f_FunctionContext_burn, ["self"], [], 0, [("self", 0)], M.FunctionContext_burn⟩
noncomputable def FunctionContext_is_true : FnT := ⟨A.f_FunctionContext_is_true, ["self", "e"], [], 0, [("self", 0), ("e", 1)], M.FunctionContext_is_true⟩
noncomputable def run_block : FnT := ⟨A.f_run_block, ["s", "ctx"], [], 2, [("s", 0), ("ctx", 1), ("inner", 2), ("disabled", 3)], M.run_block⟩
noncomputable def run_set : FnT := ⟨A.f_run_set, ["s", "ctx"], [], 2, [("s", 0), ("ctx", 1), ("value", 2), ("key", 3)], M.run_set⟩
noncomputable def run_while : FnT := ⟨A.f_run_while, ["condition", "body", "step", "ctx"], [], 1, [("condition", 0), ("body", 1), ("step", 2), ("ctx", 3), ("disabled", 4)], M.run_while⟩
noncomputable def run_statement : FnT := ⟨A.f_run_statement, ["s", "ctx"], [], 1, [("s", 0), ("ctx", 1), ("tag", 2)], M.run_statement⟩
noncomputable def net_kinds : FnT := ⟨A.f_net_kinds, [], [], 0, [], M.net_kinds⟩
noncomputable def Signal___init__ : FnT := ⟨A.f_Signal___init__, ["self", "key", "path", "kind", "width", "signed", "msb", "lsb"], [], 0, [("self", 0), ("key", 1), ("path", 2), ("kind", 3), ("width", 4), ("signed", 5), ("msb", 6), ("lsb", 7)], M.Signal___init__⟩
noncomputable def Signal_is_net : FnT := ⟨A.f_Signal_is_net, ["self"], [], 0, [("self", 0)], M.Signal_is_net⟩
noncomputable def Routine___init__ : FnT := ⟨A.f_Routine___init__, ["self", "number", "path", "is_function", "automatic", "at"], [], 0, [("self", 0), ("number", 1), ("path", 2), ("is_function", 3), ("automatic", 4), ("at", 5)], M.Routine___init__⟩
noncomputable def Design___init__ : FnT := ⟨A.f_Design___init__, ["self"], [], 0, [("self", 0)], M.Design___init__⟩
noncomputable def Design_add_signal : FnT := ⟨A.f_Design_add_signal, ["self", "path", "kind", "width", "signed", "msb", "lsb", "at"], [], 1, [("self", 0), ("path", 1), ("kind", 2), ("width", 3), ("signed", 4), ("msb", 5), ("lsb", 6), ("at", 7), ("signal", 8)], M.Design_add_signal⟩
noncomputable def Design_add_routine : FnT := ⟨A.f_Design_add_routine, ["self", "path", "is_function", "automatic", "at"], [], 1, [("self", 0), ("path", 1), ("is_function", 2), ("automatic", 3), ("at", 4), ("routine", 5)], M.Design_add_routine⟩
noncomputable def Design_routine : FnT := ⟨A.f_Design_routine, ["self", "n"], [], 1, [("self", 0), ("n", 1), ("routine", 2)], M.Design_routine⟩
noncomputable def xlaw_row : FnT := ⟨A.f__law_row, ["script"], [], 4, [("script", 0), ("row", 1), ("cell", 2), ("number", 3), ("turn", 4)], M.xlaw_row⟩
noncomputable def xlaw_next : FnT := ⟨A.f__law_next, ["row"], [], 0, [("row", 0)], M.xlaw_next⟩
noncomputable def xlaw_bits : FnT := ⟨A.f__law_bits, ["row", "wide"], [], 4, [("row", 0), ("wide", 1), ("bits", 2), ("turn", 3), ("number", 4), ("step", 5)], M.xlaw_bits⟩
noncomputable def xlaw_made : FnT := ⟨A.f__law_made, ["bits"], [], 3, [("bits", 0), ("low", 1), ("high", 2), ("spot", 3)], M.xlaw_made⟩
noncomputable def xlaw_lv : FnT := ⟨A.f__law_lv, ["kind", "wide", "ref"], [], 0, [("kind", 0), ("wide", 1), ("ref", 2)], M.xlaw_lv⟩
noncomputable def xlaw_function : FnT := ⟨A.f__law_function, ["design", "body", "ports", "slots"], [], 1, [("design", 0), ("body", 1), ("ports", 2), ("slots", 3), ("routine", 4)], M.xlaw_function⟩
noncomputable def xlaw_refused : FnT := ⟨A.f__law_refused, ["ctx", "number", "args"], [], 1, [("ctx", 0), ("number", 1), ("args", 2), ("error", 3)], M.xlaw_refused⟩
noncomputable def law : FnT := ⟨A.f_law, ["script"], [], 27, [("script", 0), ("row", 1), ("design", 2), ("wide", 3), ("signed", 4), ("one", 5), ("old", 6), ("other", 7), ("turns", 8), ("name", 9), ("width", 10), ("store", 11), ("step", 12), ("leave", 13), ("begin", 14), ("loop", 15), ("more", 16), ("result", 17), ("number", 18), ("ctx", 19), ("due", 20), ("later", 21), ("keys", 22), ("late", 23), ("body", 24), ("fuel", 25), ("depth", 26)], M.law⟩
end F
noncomputable def fns : List FnT := [F.GateloomError___init__, F.mask, F.vec, F.all_x, F.from_int, F.is_known, F.code, F.slice_vec, F.put_slice, F.extend, F.truth, F.add, F.one_bit, F.bit_xor, F.equal, F.arithmetic, F.comparison, F.bitwise, F.binary, F.evaluate, F.locate, F.holder_width, F.resolve_target, F.store_rows, F.Store___init__, F.Store_get, F.Store_set_bits, F.Context___init__, F.FunctionContext___init__, F.FunctionContext_call, F.FunctionContext_new_frame, F.FunctionContext_burn, F.FunctionContext_is_true, F.run_block, F.run_set, F.run_while, F.run_statement, F.net_kinds, F.Signal___init__, F.Signal_is_net, F.Routine___init__, F.Design___init__, F.Design_add_signal, F.Design_add_routine, F.Design_routine, F.xlaw_row, F.xlaw_next, F.xlaw_bits, F.xlaw_made, F.xlaw_lv, F.xlaw_function, F.xlaw_refused, F.law]
noncomputable def insts : List (Addr × Addr) := [(A.c_Store, A.f_Store___init__), (A.c_FunctionContext, A.f_FunctionContext___init__), (A.c_Signal, A.f_Signal___init__), (A.c_Routine, A.f_Routine___init__), (A.c_Design, A.f_Design___init__)]
noncomputable def excsT : List (Addr × Addr) := [(A.c_DesignError, A.f_GateloomError___init__), (A.c_LimitReached, A.f_GateloomError___init__)]
noncomputable def factsB (K : Frag) : Bool := cxB Tb K && fns.all (fun x => x.ok K Tb.sym) && insts.all (fun x => instB K x.1 x.2) && excsT.all (fun x => excChk K x.1 x.2)
structure CX extends Cx Tb where
  hF : factsB K = true
theorem CX.fnOk (c : CX) {x : FnT} (i : Nat) (hi : fns[i]? = some x) : x.ok c.K Tb.sym = true := by
  have h := c.hF
  simp only [factsB, Bool.and_eq_true] at h
  exact List.all_eq_true.mp h.1.1.2 x (List.mem_of_getElem? hi)
theorem CX.instOk (c : CX) {x : Addr × Addr} (i : Nat) (hi : insts[i]? = some x) : instB c.K x.1 x.2 = true := by
  have h := c.hF
  simp only [factsB, Bool.and_eq_true] at h
  exact List.all_eq_true.mp h.1.2 x (List.mem_of_getElem? hi)
theorem CX.excOk (c : CX) {x : Addr × Addr} (i : Nat) (hi : excsT[i]? = some x) : excChk c.K x.1 x.2 = true := by
  have h := c.hF
  simp only [factsB, Bool.and_eq_true] at h
  exact List.all_eq_true.mp h.2 x (List.mem_of_getElem? hi)
theorem cod_of {c : CX} {r : Nat} (hr : 1 ≤ r) (x : FnT) (i : Nat) (hi : fns[i]? = some x) {args : List MV} (h : (Nat.ble args.length x.ps.length && Nat.ble x.ps.length (args.length + x.ds.length)) = true) {σ : Hp} {Q E : MV → Hp → Prop}
    (q : swps Tb (CSf c.toCx) (r - 1) x.ms ((args ++ x.ds.drop (args.length + x.ds.length - x.ps.length)).map some ++ List.replicate x.n none) σ (retQ Q) (fun x _ σ1 => E x σ1)) : CodeSpec c.toCx r (.ref x.f) args σ Q E := by
  obtain ⟨r, rfl⟩ : ∃ k, r = k + 1 := ⟨r - 1, by omega⟩
  obtain ⟨h1, h2⟩ := Bool.and_eq_true_iff.mp h
  exact x.code (c.fnOk i hi) (Nat.le_of_ble_eq_true h1) (Nat.le_of_ble_eq_true h2) q
theorem new_of {c : CX} {r : Nat} (hr : 1 ≤ r) {C fI : Addr} (i : Nat) (hi : insts[i]? = some (C, fI)) {args : List MV} {σ : Hp} {Q E : MV → Hp → Prop}
    (q : ∀ a, σ a = none → CodeSpec c.toCx (r - 1) (.ref fI) (.ref a :: args) (σ.put a (.inst C [])) (fun v σ1 => v = .none ∧ Q (.ref a) σ1) E) : CallSpec c.toCx r (.ref C) args σ Q E := by
  obtain ⟨r, rfl⟩ : ∃ k, r = k + 1 := ⟨r - 1, by omega⟩
  have h := c.instOk i hi
  simp only [instB, Bool.and_eq_true, beq_iff_eq] at h
  exact (inst_intro (cx := c.toCx) h.1.1 h.1.2 h.2 q).call
theorem exc_of {c : CX} {r : Nat} (hr : 1 ≤ r) {C fI : Addr} (i : Nat) (hi : excsT[i]? = some (C, fI)) {args : List MV} (hl : args.length ≤ 1000) {σ : Hp} {Q E : MV → Hp → Prop}
    (q : ∀ a, σ a = none → CodeSpec c.toCx (r - 1) (.ref fI) (.ref a :: args) (σ.put a (.exc C [])) (fun v σ1 => v = .none ∧ Q (.ref a) σ1) E) : CallSpec c.toCx r (.ref C) args σ Q E := by
  obtain ⟨r, rfl⟩ : ∃ k, r = k + 1 := ⟨r - 1, by omega⟩
  exact (exc_intro (cx := c.toCx) (c.excOk i hi) hl q).call
end Mine
end
section
open PySem PySem.W PyProof.Rows
set_option maxRecDepth 100000
namespace Mine
theorem cod_GateloomError___init___2 {c : CX} {r : Nat} (hr : 1 ≤ r) {a0 a1 : MV} {σ : Hp} {Q E : MV → Hp → Prop} (q : swps Tb (CSf c.toCx) (r - 1) M.GateloomError___init__ [some a0, some a1, some (.int (-1)), some (.sym 122)] σ (retQ Q) (fun x _ σ1 => E x σ1)) : CodeSpec c.toCx r (.ref A.f_GateloomError___init__) [a0, a1] σ Q E := cod_of hr F.GateloomError___init__ 0 rfl rfl q
theorem cod_GateloomError___init___3 {c : CX} {r : Nat} (hr : 1 ≤ r) {a0 a1 a2 : MV} {σ : Hp} {Q E : MV → Hp → Prop} (q : swps Tb (CSf c.toCx) (r - 1) M.GateloomError___init__ [some a0, some a1, some a2, some (.sym 122)] σ (retQ Q) (fun x _ σ1 => E x σ1)) : CodeSpec c.toCx r (.ref A.f_GateloomError___init__) [a0, a1, a2] σ Q E := cod_of hr F.GateloomError___init__ 0 rfl rfl q
theorem cod_GateloomError___init__ {c : CX} {r : Nat} (hr : 1 ≤ r) {a0 a1 a2 a3 : MV} {σ : Hp} {Q E : MV → Hp → Prop} (q : swps Tb (CSf c.toCx) (r - 1) M.GateloomError___init__ [some a0, some a1, some a2, some a3] σ (retQ Q) (fun x _ σ1 => E x σ1)) : CodeSpec c.toCx r (.ref A.f_GateloomError___init__) [a0, a1, a2, a3] σ Q E := cod_of hr F.GateloomError___init__ 0 rfl rfl q
theorem cod_mask {c : CX} {r : Nat} (hr : 1 ≤ r) {a0 : MV} {σ : Hp} {Q E : MV → Hp → Prop} (q : swps Tb (CSf c.toCx) (r - 1) M.mask [some a0] σ (retQ Q) (fun x _ σ1 => E x σ1)) : CodeSpec c.toCx r (.ref A.f_mask) [a0] σ Q E := cod_of hr F.mask 1 rfl rfl q
theorem cal_mask {c : CX} {r : Nat} (hr : 1 ≤ r) {a0 : MV} {σ : Hp} {Q E : MV → Hp → Prop} {t : Tk Q E} (q : swps Tb (CSf c.toCx) (r - 1) M.mask [some a0] σ (retQ Q) (fun x _ σ1 => E x σ1)) : CS1 c.toCx r (.ref A.f_mask) [a0] σ Q E t := (cod_mask hr q).call
theorem cod_vec_2 {c : CX} {r : Nat} (hr : 1 ≤ r) {a0 a1 : MV} {σ : Hp} {Q E : MV → Hp → Prop} (q : swps Tb (CSf c.toCx) (r - 1) M.vec [some a0, some a1, some (.int 0), none] σ (retQ Q) (fun x _ σ1 => E x σ1)) : CodeSpec c.toCx r (.ref A.f_vec) [a0, a1] σ Q E := cod_of hr F.vec 2 rfl rfl q
theorem cal_vec_2 {c : CX} {r : Nat} (hr : 1 ≤ r) {a0 a1 : MV} {σ : Hp} {Q E : MV → Hp → Prop} {t : Tk Q E} (q : swps Tb (CSf c.toCx) (r - 1) M.vec [some a0, some a1, some (.int 0), none] σ (retQ Q) (fun x _ σ1 => E x σ1)) : CS1 c.toCx r (.ref A.f_vec) [a0, a1] σ Q E t := (cod_vec_2 hr q).call
theorem cod_vec {c : CX} {r : Nat} (hr : 1 ≤ r) {a0 a1 a2 : MV} {σ : Hp} {Q E : MV → Hp → Prop} (q : swps Tb (CSf c.toCx) (r - 1) M.vec [some a0, some a1, some a2, none] σ (retQ Q) (fun x _ σ1 => E x σ1)) : CodeSpec c.toCx r (.ref A.f_vec) [a0, a1, a2] σ Q E := cod_of hr F.vec 2 rfl rfl q
theorem cal_vec {c : CX} {r : Nat} (hr : 1 ≤ r) {a0 a1 a2 : MV} {σ : Hp} {Q E : MV → Hp → Prop} {t : Tk Q E} (q : swps Tb (CSf c.toCx) (r - 1) M.vec [some a0, some a1, some a2, none] σ (retQ Q) (fun x _ σ1 => E x σ1)) : CS1 c.toCx r (.ref A.f_vec) [a0, a1, a2] σ Q E t := (cod_vec hr q).call
theorem cod_all_x {c : CX} {r : Nat} (hr : 1 ≤ r) {a0 : MV} {σ : Hp} {Q E : MV → Hp → Prop} (q : swps Tb (CSf c.toCx) (r - 1) M.all_x [some a0, none] σ (retQ Q) (fun x _ σ1 => E x σ1)) : CodeSpec c.toCx r (.ref A.f_all_x) [a0] σ Q E := cod_of hr F.all_x 3 rfl rfl q
theorem cal_all_x {c : CX} {r : Nat} (hr : 1 ≤ r) {a0 : MV} {σ : Hp} {Q E : MV → Hp → Prop} {t : Tk Q E} (q : swps Tb (CSf c.toCx) (r - 1) M.all_x [some a0, none] σ (retQ Q) (fun x _ σ1 => E x σ1)) : CS1 c.toCx r (.ref A.f_all_x) [a0] σ Q E t := (cod_all_x hr q).call
theorem cod_from_int {c : CX} {r : Nat} (hr : 1 ≤ r) {a0 a1 : MV} {σ : Hp} {Q E : MV → Hp → Prop} (q : swps Tb (CSf c.toCx) (r - 1) M.from_int [some a0, some a1] σ (retQ Q) (fun x _ σ1 => E x σ1)) : CodeSpec c.toCx r (.ref A.f_from_int) [a0, a1] σ Q E := cod_of hr F.from_int 4 rfl rfl q
theorem cal_from_int {c : CX} {r : Nat} (hr : 1 ≤ r) {a0 a1 : MV} {σ : Hp} {Q E : MV → Hp → Prop} {t : Tk Q E} (q : swps Tb (CSf c.toCx) (r - 1) M.from_int [some a0, some a1] σ (retQ Q) (fun x _ σ1 => E x σ1)) : CS1 c.toCx r (.ref A.f_from_int) [a0, a1] σ Q E t := (cod_from_int hr q).call
theorem cod_is_known {c : CX} {r : Nat} (hr : 1 ≤ r) {a0 : MV} {σ : Hp} {Q E : MV → Hp → Prop} (q : swps Tb (CSf c.toCx) (r - 1) M.is_known [some a0] σ (retQ Q) (fun x _ σ1 => E x σ1)) : CodeSpec c.toCx r (.ref A.f_is_known) [a0] σ Q E := cod_of hr F.is_known 5 rfl rfl q
theorem cal_is_known {c : CX} {r : Nat} (hr : 1 ≤ r) {a0 : MV} {σ : Hp} {Q E : MV → Hp → Prop} {t : Tk Q E} (q : swps Tb (CSf c.toCx) (r - 1) M.is_known [some a0] σ (retQ Q) (fun x _ σ1 => E x σ1)) : CS1 c.toCx r (.ref A.f_is_known) [a0] σ Q E t := (cod_is_known hr q).call
theorem cod_code {c : CX} {r : Nat} (hr : 1 ≤ r) {a0 a1 : MV} {σ : Hp} {Q E : MV → Hp → Prop} (q : swps Tb (CSf c.toCx) (r - 1) M.code [some a0, some a1] σ (retQ Q) (fun x _ σ1 => E x σ1)) : CodeSpec c.toCx r (.ref A.f_code) [a0, a1] σ Q E := cod_of hr F.code 6 rfl rfl q
theorem cal_code {c : CX} {r : Nat} (hr : 1 ≤ r) {a0 a1 : MV} {σ : Hp} {Q E : MV → Hp → Prop} {t : Tk Q E} (q : swps Tb (CSf c.toCx) (r - 1) M.code [some a0, some a1] σ (retQ Q) (fun x _ σ1 => E x σ1)) : CS1 c.toCx r (.ref A.f_code) [a0, a1] σ Q E t := (cod_code hr q).call
theorem cod_slice_vec {c : CX} {r : Nat} (hr : 1 ≤ r) {a0 a1 a2 : MV} {σ : Hp} {Q E : MV → Hp → Prop} (q : swps Tb (CSf c.toCx) (r - 1) M.slice_vec [some a0, some a1, some a2, none, none, none, none, none, none, none] σ (retQ Q) (fun x _ σ1 => E x σ1)) : CodeSpec c.toCx r (.ref A.f_slice_vec) [a0, a1, a2] σ Q E := cod_of hr F.slice_vec 7 rfl rfl q
theorem cal_slice_vec {c : CX} {r : Nat} (hr : 1 ≤ r) {a0 a1 a2 : MV} {σ : Hp} {Q E : MV → Hp → Prop} {t : Tk Q E} (q : swps Tb (CSf c.toCx) (r - 1) M.slice_vec [some a0, some a1, some a2, none, none, none, none, none, none, none] σ (retQ Q) (fun x _ σ1 => E x σ1)) : CS1 c.toCx r (.ref A.f_slice_vec) [a0, a1, a2] σ Q E t := (cod_slice_vec hr q).call
theorem cod_put_slice {c : CX} {r : Nat} (hr : 1 ≤ r) {a0 a1 a2 : MV} {σ : Hp} {Q E : MV → Hp → Prop} (q : swps Tb (CSf c.toCx) (r - 1) M.put_slice [some a0, some a1, some a2, none, none, none, none, none, none, none] σ (retQ Q) (fun x _ σ1 => E x σ1)) : CodeSpec c.toCx r (.ref A.f_put_slice) [a0, a1, a2] σ Q E := cod_of hr F.put_slice 8 rfl rfl q
theorem cal_put_slice {c : CX} {r : Nat} (hr : 1 ≤ r) {a0 a1 a2 : MV} {σ : Hp} {Q E : MV → Hp → Prop} {t : Tk Q E} (q : swps Tb (CSf c.toCx) (r - 1) M.put_slice [some a0, some a1, some a2, none, none, none, none, none, none, none] σ (retQ Q) (fun x _ σ1 => E x σ1)) : CS1 c.toCx r (.ref A.f_put_slice) [a0, a1, a2] σ Q E t := (cod_put_slice hr q).call
theorem cod_extend {c : CX} {r : Nat} (hr : 1 ≤ r) {a0 a1 a2 : MV} {σ : Hp} {Q E : MV → Hp → Prop} (q : swps Tb (CSf c.toCx) (r - 1) M.extend [some a0, some a1, some a2, none, none, none, none] σ (retQ Q) (fun x _ σ1 => E x σ1)) : CodeSpec c.toCx r (.ref A.f_extend) [a0, a1, a2] σ Q E := cod_of hr F.extend 9 rfl rfl q
theorem cal_extend {c : CX} {r : Nat} (hr : 1 ≤ r) {a0 a1 a2 : MV} {σ : Hp} {Q E : MV → Hp → Prop} {t : Tk Q E} (q : swps Tb (CSf c.toCx) (r - 1) M.extend [some a0, some a1, some a2, none, none, none, none] σ (retQ Q) (fun x _ σ1 => E x σ1)) : CS1 c.toCx r (.ref A.f_extend) [a0, a1, a2] σ Q E t := (cod_extend hr q).call
theorem cod_truth {c : CX} {r : Nat} (hr : 1 ≤ r) {a0 : MV} {σ : Hp} {Q E : MV → Hp → Prop} (q : swps Tb (CSf c.toCx) (r - 1) M.truth [some a0] σ (retQ Q) (fun x _ σ1 => E x σ1)) : CodeSpec c.toCx r (.ref A.f_truth) [a0] σ Q E := cod_of hr F.truth 10 rfl rfl q
theorem cal_truth {c : CX} {r : Nat} (hr : 1 ≤ r) {a0 : MV} {σ : Hp} {Q E : MV → Hp → Prop} {t : Tk Q E} (q : swps Tb (CSf c.toCx) (r - 1) M.truth [some a0] σ (retQ Q) (fun x _ σ1 => E x σ1)) : CS1 c.toCx r (.ref A.f_truth) [a0] σ Q E t := (cod_truth hr q).call
theorem cod_add {c : CX} {r : Nat} (hr : 1 ≤ r) {a0 a1 : MV} {σ : Hp} {Q E : MV → Hp → Prop} (q : swps Tb (CSf c.toCx) (r - 1) M.add [some a0, some a1] σ (retQ Q) (fun x _ σ1 => E x σ1)) : CodeSpec c.toCx r (.ref A.f_add) [a0, a1] σ Q E := cod_of hr F.add 11 rfl rfl q
theorem cal_add {c : CX} {r : Nat} (hr : 1 ≤ r) {a0 a1 : MV} {σ : Hp} {Q E : MV → Hp → Prop} {t : Tk Q E} (q : swps Tb (CSf c.toCx) (r - 1) M.add [some a0, some a1] σ (retQ Q) (fun x _ σ1 => E x σ1)) : CS1 c.toCx r (.ref A.f_add) [a0, a1] σ Q E t := (cod_add hr q).call
theorem cod_one_bit {c : CX} {r : Nat} (hr : 1 ≤ r) {a0 : MV} {σ : Hp} {Q E : MV → Hp → Prop} (q : swps Tb (CSf c.toCx) (r - 1) M.one_bit [some a0] σ (retQ Q) (fun x _ σ1 => E x σ1)) : CodeSpec c.toCx r (.ref A.f_one_bit) [a0] σ Q E := cod_of hr F.one_bit 12 rfl rfl q
theorem cal_one_bit {c : CX} {r : Nat} (hr : 1 ≤ r) {a0 : MV} {σ : Hp} {Q E : MV → Hp → Prop} {t : Tk Q E} (q : swps Tb (CSf c.toCx) (r - 1) M.one_bit [some a0] σ (retQ Q) (fun x _ σ1 => E x σ1)) : CS1 c.toCx r (.ref A.f_one_bit) [a0] σ Q E t := (cod_one_bit hr q).call
theorem cod_bit_xor {c : CX} {r : Nat} (hr : 1 ≤ r) {a0 a1 : MV} {σ : Hp} {Q E : MV → Hp → Prop} (q : swps Tb (CSf c.toCx) (r - 1) M.bit_xor [some a0, some a1, none] σ (retQ Q) (fun x _ σ1 => E x σ1)) : CodeSpec c.toCx r (.ref A.f_bit_xor) [a0, a1] σ Q E := cod_of hr F.bit_xor 13 rfl rfl q
theorem cal_bit_xor {c : CX} {r : Nat} (hr : 1 ≤ r) {a0 a1 : MV} {σ : Hp} {Q E : MV → Hp → Prop} {t : Tk Q E} (q : swps Tb (CSf c.toCx) (r - 1) M.bit_xor [some a0, some a1, none] σ (retQ Q) (fun x _ σ1 => E x σ1)) : CS1 c.toCx r (.ref A.f_bit_xor) [a0, a1] σ Q E t := (cod_bit_xor hr q).call
theorem cod_equal {c : CX} {r : Nat} (hr : 1 ≤ r) {a0 a1 : MV} {σ : Hp} {Q E : MV → Hp → Prop} (q : swps Tb (CSf c.toCx) (r - 1) M.equal [some a0, some a1, none] σ (retQ Q) (fun x _ σ1 => E x σ1)) : CodeSpec c.toCx r (.ref A.f_equal) [a0, a1] σ Q E := cod_of hr F.equal 14 rfl rfl q
theorem cal_equal {c : CX} {r : Nat} (hr : 1 ≤ r) {a0 a1 : MV} {σ : Hp} {Q E : MV → Hp → Prop} {t : Tk Q E} (q : swps Tb (CSf c.toCx) (r - 1) M.equal [some a0, some a1, none] σ (retQ Q) (fun x _ σ1 => E x σ1)) : CS1 c.toCx r (.ref A.f_equal) [a0, a1] σ Q E t := (cod_equal hr q).call
theorem cod_arithmetic {c : CX} {r : Nat} (hr : 1 ≤ r) {a0 a1 a2 a3 : MV} {σ : Hp} {Q E : MV → Hp → Prop} (q : swps Tb (CSf c.toCx) (r - 1) M.arithmetic [some a0, some a1, some a2, some a3] σ (retQ Q) (fun x _ σ1 => E x σ1)) : CodeSpec c.toCx r (.ref A.f_arithmetic) [a0, a1, a2, a3] σ Q E := cod_of hr F.arithmetic 15 rfl rfl q
theorem cal_arithmetic {c : CX} {r : Nat} (hr : 1 ≤ r) {a0 a1 a2 a3 : MV} {σ : Hp} {Q E : MV → Hp → Prop} {t : Tk Q E} (q : swps Tb (CSf c.toCx) (r - 1) M.arithmetic [some a0, some a1, some a2, some a3] σ (retQ Q) (fun x _ σ1 => E x σ1)) : CS1 c.toCx r (.ref A.f_arithmetic) [a0, a1, a2, a3] σ Q E t := (cod_arithmetic hr q).call
theorem cod_comparison {c : CX} {r : Nat} (hr : 1 ≤ r) {a0 a1 a2 a3 : MV} {σ : Hp} {Q E : MV → Hp → Prop} (q : swps Tb (CSf c.toCx) (r - 1) M.comparison [some a0, some a1, some a2, some a3] σ (retQ Q) (fun x _ σ1 => E x σ1)) : CodeSpec c.toCx r (.ref A.f_comparison) [a0, a1, a2, a3] σ Q E := cod_of hr F.comparison 16 rfl rfl q
theorem cal_comparison {c : CX} {r : Nat} (hr : 1 ≤ r) {a0 a1 a2 a3 : MV} {σ : Hp} {Q E : MV → Hp → Prop} {t : Tk Q E} (q : swps Tb (CSf c.toCx) (r - 1) M.comparison [some a0, some a1, some a2, some a3] σ (retQ Q) (fun x _ σ1 => E x σ1)) : CS1 c.toCx r (.ref A.f_comparison) [a0, a1, a2, a3] σ Q E t := (cod_comparison hr q).call
theorem cod_bitwise {c : CX} {r : Nat} (hr : 1 ≤ r) {a0 a1 a2 : MV} {σ : Hp} {Q E : MV → Hp → Prop} (q : swps Tb (CSf c.toCx) (r - 1) M.bitwise [some a0, some a1, some a2] σ (retQ Q) (fun x _ σ1 => E x σ1)) : CodeSpec c.toCx r (.ref A.f_bitwise) [a0, a1, a2] σ Q E := cod_of hr F.bitwise 17 rfl rfl q
theorem cal_bitwise {c : CX} {r : Nat} (hr : 1 ≤ r) {a0 a1 a2 : MV} {σ : Hp} {Q E : MV → Hp → Prop} {t : Tk Q E} (q : swps Tb (CSf c.toCx) (r - 1) M.bitwise [some a0, some a1, some a2] σ (retQ Q) (fun x _ σ1 => E x σ1)) : CS1 c.toCx r (.ref A.f_bitwise) [a0, a1, a2] σ Q E t := (cod_bitwise hr q).call
theorem cod_binary {c : CX} {r : Nat} (hr : 1 ≤ r) {a0 a1 a2 a3 : MV} {σ : Hp} {Q E : MV → Hp → Prop} (q : swps Tb (CSf c.toCx) (r - 1) M.binary [some a0, some a1, some a2, some a3, none] σ (retQ Q) (fun x _ σ1 => E x σ1)) : CodeSpec c.toCx r (.ref A.f_binary) [a0, a1, a2, a3] σ Q E := cod_of hr F.binary 18 rfl rfl q
theorem cal_binary {c : CX} {r : Nat} (hr : 1 ≤ r) {a0 a1 a2 a3 : MV} {σ : Hp} {Q E : MV → Hp → Prop} {t : Tk Q E} (q : swps Tb (CSf c.toCx) (r - 1) M.binary [some a0, some a1, some a2, some a3, none] σ (retQ Q) (fun x _ σ1 => E x σ1)) : CS1 c.toCx r (.ref A.f_binary) [a0, a1, a2, a3] σ Q E t := (cod_binary hr q).call
theorem cod_evaluate {c : CX} {r : Nat} (hr : 1 ≤ r) {a0 a1 : MV} {σ : Hp} {Q E : MV → Hp → Prop} (q : swps Tb (CSf c.toCx) (r - 1) M.evaluate [some a0, some a1, none, none, none] σ (retQ Q) (fun x _ σ1 => E x σ1)) : CodeSpec c.toCx r (.ref A.f_evaluate) [a0, a1] σ Q E := cod_of hr F.evaluate 19 rfl rfl q
theorem cal_evaluate {c : CX} {r : Nat} (hr : 1 ≤ r) {a0 a1 : MV} {σ : Hp} {Q E : MV → Hp → Prop} {t : Tk Q E} (q : swps Tb (CSf c.toCx) (r - 1) M.evaluate [some a0, some a1, none, none, none] σ (retQ Q) (fun x _ σ1 => E x σ1)) : CS1 c.toCx r (.ref A.f_evaluate) [a0, a1] σ Q E t := (cod_evaluate hr q).call
theorem cod_locate {c : CX} {r : Nat} (hr : 1 ≤ r) {a0 a1 : MV} {σ : Hp} {Q E : MV → Hp → Prop} (q : swps Tb (CSf c.toCx) (r - 1) M.locate [some a0, some a1, none] σ (retQ Q) (fun x _ σ1 => E x σ1)) : CodeSpec c.toCx r (.ref A.f_locate) [a0, a1] σ Q E := cod_of hr F.locate 20 rfl rfl q
theorem cal_locate {c : CX} {r : Nat} (hr : 1 ≤ r) {a0 a1 : MV} {σ : Hp} {Q E : MV → Hp → Prop} {t : Tk Q E} (q : swps Tb (CSf c.toCx) (r - 1) M.locate [some a0, some a1, none] σ (retQ Q) (fun x _ σ1 => E x σ1)) : CS1 c.toCx r (.ref A.f_locate) [a0, a1] σ Q E t := (cod_locate hr q).call
theorem cod_holder_width {c : CX} {r : Nat} (hr : 1 ≤ r) {a0 a1 : MV} {σ : Hp} {Q E : MV → Hp → Prop} (q : swps Tb (CSf c.toCx) (r - 1) M.holder_width [some a0, some a1] σ (retQ Q) (fun x _ σ1 => E x σ1)) : CodeSpec c.toCx r (.ref A.f_holder_width) [a0, a1] σ Q E := cod_of hr F.holder_width 21 rfl rfl q
theorem cal_holder_width {c : CX} {r : Nat} (hr : 1 ≤ r) {a0 a1 : MV} {σ : Hp} {Q E : MV → Hp → Prop} {t : Tk Q E} (q : swps Tb (CSf c.toCx) (r - 1) M.holder_width [some a0, some a1] σ (retQ Q) (fun x _ σ1 => E x σ1)) : CS1 c.toCx r (.ref A.f_holder_width) [a0, a1] σ Q E t := (cod_holder_width hr q).call
theorem cod_resolve_target {c : CX} {r : Nat} (hr : 1 ≤ r) {a0 a1 : MV} {σ : Hp} {Q E : MV → Hp → Prop} (q : swps Tb (CSf c.toCx) (r - 1) M.resolve_target [some a0, some a1, none, none, none, none, none, none, none, none, none, none, none] σ (retQ Q) (fun x _ σ1 => E x σ1)) : CodeSpec c.toCx r (.ref A.f_resolve_target) [a0, a1] σ Q E := cod_of hr F.resolve_target 22 rfl rfl q
theorem cal_resolve_target {c : CX} {r : Nat} (hr : 1 ≤ r) {a0 a1 : MV} {σ : Hp} {Q E : MV → Hp → Prop} {t : Tk Q E} (q : swps Tb (CSf c.toCx) (r - 1) M.resolve_target [some a0, some a1, none, none, none, none, none, none, none, none, none, none, none] σ (retQ Q) (fun x _ σ1 => E x σ1)) : CS1 c.toCx r (.ref A.f_resolve_target) [a0, a1] σ Q E t := (cod_resolve_target hr q).call
theorem cod_store_rows {c : CX} {r : Nat} (hr : 1 ≤ r) {a0 a1 a2 : MV} {σ : Hp} {Q E : MV → Hp → Prop} (q : swps Tb (CSf c.toCx) (r - 1) M.store_rows [some a0, some a1, some a2, none, none, none, none, none, none, none, none] σ (retQ Q) (fun x _ σ1 => E x σ1)) : CodeSpec c.toCx r (.ref A.f_store_rows) [a0, a1, a2] σ Q E := cod_of hr F.store_rows 23 rfl rfl q
theorem cal_store_rows {c : CX} {r : Nat} (hr : 1 ≤ r) {a0 a1 a2 : MV} {σ : Hp} {Q E : MV → Hp → Prop} {t : Tk Q E} (q : swps Tb (CSf c.toCx) (r - 1) M.store_rows [some a0, some a1, some a2, none, none, none, none, none, none, none, none] σ (retQ Q) (fun x _ σ1 => E x σ1)) : CS1 c.toCx r (.ref A.f_store_rows) [a0, a1, a2] σ Q E t := (cod_store_rows hr q).call
theorem cod_Store___init__ {c : CX} {r : Nat} (hr : 1 ≤ r) {a0 a1 : MV} {σ : Hp} {Q E : MV → Hp → Prop} (q : swps Tb (CSf c.toCx) (r - 1) M.Store___init__ [some a0, some a1] σ (retQ Q) (fun x _ σ1 => E x σ1)) : CodeSpec c.toCx r (.ref A.f_Store___init__) [a0, a1] σ Q E := cod_of hr F.Store___init__ 24 rfl rfl q
theorem cod_Store_get {c : CX} {r : Nat} (hr : 1 ≤ r) {a0 a1 : MV} {σ : Hp} {Q E : MV → Hp → Prop} (q : swps Tb (CSf c.toCx) (r - 1) M.Store_get [some a0, some a1, none, none] σ (retQ Q) (fun x _ σ1 => E x σ1)) : CodeSpec c.toCx r (.ref A.f_Store_get) [a0, a1] σ Q E := cod_of hr F.Store_get 25 rfl rfl q
theorem cal_Store_get {c : CX} {r : Nat} (hr : 1 ≤ r) {a0 a1 : MV} {σ : Hp} {Q E : MV → Hp → Prop} {t : Tk Q E} (q : swps Tb (CSf c.toCx) (r - 1) M.Store_get [some a0, some a1, none, none] σ (retQ Q) (fun x _ σ1 => E x σ1)) : CS1 c.toCx r (.ref A.f_Store_get) [a0, a1] σ Q E t := (cod_Store_get hr q).call
theorem cod_Store_set_bits {c : CX} {r : Nat} (hr : 1 ≤ r) {a0 a1 a2 a3 a4 : MV} {σ : Hp} {Q E : MV → Hp → Prop} (q : swps Tb (CSf c.toCx) (r - 1) M.Store_set_bits [some a0, some a1, some a2, some a3, some a4, none, none] σ (retQ Q) (fun x _ σ1 => E x σ1)) : CodeSpec c.toCx r (.ref A.f_Store_set_bits) [a0, a1, a2, a3, a4] σ Q E := cod_of hr F.Store_set_bits 26 rfl rfl q
theorem cal_Store_set_bits {c : CX} {r : Nat} (hr : 1 ≤ r) {a0 a1 a2 a3 a4 : MV} {σ : Hp} {Q E : MV → Hp → Prop} {t : Tk Q E} (q : swps Tb (CSf c.toCx) (r - 1) M.Store_set_bits [some a0, some a1, some a2, some a3, some a4, none, none] σ (retQ Q) (fun x _ σ1 => E x σ1)) : CS1 c.toCx r (.ref A.f_Store_set_bits) [a0, a1, a2, a3, a4] σ Q E t := (cod_Store_set_bits hr q).call
theorem cod_Context___init___3 {c : CX} {r : Nat} (hr : 1 ≤ r) {a0 a1 a2 : MV} {σ : Hp} {Q E : MV → Hp → Prop} (q : swps Tb (CSf c.toCx) (r - 1) M.Context___init__ [some a0, some a1, some a2, some (.int 0)] σ (retQ Q) (fun x _ σ1 => E x σ1)) : CodeSpec c.toCx r (.ref A.f_Context___init__) [a0, a1, a2] σ Q E := cod_of hr F.Context___init__ 27 rfl rfl q
theorem cal_Context___init___3 {c : CX} {r : Nat} (hr : 1 ≤ r) {a0 a1 a2 : MV} {σ : Hp} {Q E : MV → Hp → Prop} {t : Tk Q E} (q : swps Tb (CSf c.toCx) (r - 1) M.Context___init__ [some a0, some a1, some a2, some (.int 0)] σ (retQ Q) (fun x _ σ1 => E x σ1)) : CS1 c.toCx r (.ref A.f_Context___init__) [a0, a1, a2] σ Q E t := (cod_Context___init___3 hr q).call
theorem cod_Context___init__ {c : CX} {r : Nat} (hr : 1 ≤ r) {a0 a1 a2 a3 : MV} {σ : Hp} {Q E : MV → Hp → Prop} (q : swps Tb (CSf c.toCx) (r - 1) M.Context___init__ [some a0, some a1, some a2, some a3] σ (retQ Q) (fun x _ σ1 => E x σ1)) : CodeSpec c.toCx r (.ref A.f_Context___init__) [a0, a1, a2, a3] σ Q E := cod_of hr F.Context___init__ 27 rfl rfl q
theorem cal_Context___init__ {c : CX} {r : Nat} (hr : 1 ≤ r) {a0 a1 a2 a3 : MV} {σ : Hp} {Q E : MV → Hp → Prop} {t : Tk Q E} (q : swps Tb (CSf c.toCx) (r - 1) M.Context___init__ [some a0, some a1, some a2, some a3] σ (retQ Q) (fun x _ σ1 => E x σ1)) : CS1 c.toCx r (.ref A.f_Context___init__) [a0, a1, a2, a3] σ Q E t := (cod_Context___init__ hr q).call
theorem cod_FunctionContext___init___5 {c : CX} {r : Nat} (hr : 1 ≤ r) {a0 a1 a2 a3 a4 : MV} {σ : Hp} {Q E : MV → Hp → Prop} (q : swps Tb (CSf c.toCx) (r - 1) M.FunctionContext___init__ [some a0, some a1, some a2, some a3, some a4, some (.int 10000)] σ (retQ Q) (fun x _ σ1 => E x σ1)) : CodeSpec c.toCx r (.ref A.f_FunctionContext___init__) [a0, a1, a2, a3, a4] σ Q E := cod_of hr F.FunctionContext___init__ 28 rfl rfl q
theorem cod_FunctionContext___init__ {c : CX} {r : Nat} (hr : 1 ≤ r) {a0 a1 a2 a3 a4 a5 : MV} {σ : Hp} {Q E : MV → Hp → Prop} (q : swps Tb (CSf c.toCx) (r - 1) M.FunctionContext___init__ [some a0, some a1, some a2, some a3, some a4, some a5] σ (retQ Q) (fun x _ σ1 => E x σ1)) : CodeSpec c.toCx r (.ref A.f_FunctionContext___init__) [a0, a1, a2, a3, a4, a5] σ Q E := cod_of hr F.FunctionContext___init__ 28 rfl rfl q
theorem cod_FunctionContext_call {c : CX} {r : Nat} (hr : 1 ≤ r) {a0 a1 a2 : MV} {σ : Hp} {Q E : MV → Hp → Prop} (q : swps Tb (CSf c.toCx) (r - 1) M.FunctionContext_call [some a0, some a1, some a2, none, none, none] σ (retQ Q) (fun x _ σ1 => E x σ1)) : CodeSpec c.toCx r (.ref A.f_FunctionContext_call) [a0, a1, a2] σ Q E := cod_of hr F.FunctionContext_call 29 rfl rfl q
theorem cal_FunctionContext_call {c : CX} {r : Nat} (hr : 1 ≤ r) {a0 a1 a2 : MV} {σ : Hp} {Q E : MV → Hp → Prop} {t : Tk Q E} (q : swps Tb (CSf c.toCx) (r - 1) M.FunctionContext_call [some a0, some a1, some a2, none, none, none] σ (retQ Q) (fun x _ σ1 => E x σ1)) : CS1 c.toCx r (.ref A.f_FunctionContext_call) [a0, a1, a2] σ Q E t := (cod_FunctionContext_call hr q).call
theorem cod_FunctionContext_new_frame {c : CX} {r : Nat} (hr : 1 ≤ r) {a0 a1 a2 : MV} {σ : Hp} {Q E : MV → Hp → Prop} (q : swps Tb (CSf c.toCx) (r - 1) M.FunctionContext_new_frame [some a0, some a1, some a2, none, none, none, none, none, none, none, none] σ (retQ Q) (fun x _ σ1 => E x σ1)) : CodeSpec c.toCx r (.ref A.f_FunctionContext_new_frame) [a0, a1, a2] σ Q E := cod_of hr F.FunctionContext_new_frame 30 rfl rfl q
theorem cal_FunctionContext_new_frame {c : CX} {r : Nat} (hr : 1 ≤ r) {a0 a1 a2 : MV} {σ : Hp} {Q E : MV → Hp → Prop} {t : Tk Q E} (q : swps Tb (CSf c.toCx) (r - 1) M.FunctionContext_new_frame [some a0, some a1, some a2, none, none, none, none, none, none, none, none] σ (retQ Q) (fun x _ σ1 => E x σ1)) : CS1 c.toCx r (.ref A.f_FunctionContext_new_frame) [a0, a1, a2] σ Q E t := (cod_FunctionContext_new_frame hr q).call
theorem cod_FunctionContext_burn {c : CX} {r : Nat} (hr : 1 ≤ r) {a0 : MV} {σ : Hp} {Q E : MV → Hp → Prop} (q : swps Tb (CSf c.toCx) (r - 1) M.FunctionContext_burn [some a0] σ (retQ Q) (fun x _ σ1 => E x σ1)) : CodeSpec c.toCx r (.ref A.f_FunctionContext_burn) [a0] σ Q E := cod_of hr F.FunctionContext_burn 31 rfl rfl q
theorem cal_FunctionContext_burn {c : CX} {r : Nat} (hr : 1 ≤ r) {a0 : MV} {σ : Hp} {Q E : MV → Hp → Prop} {t : Tk Q E} (q : swps Tb (CSf c.toCx) (r - 1) M.FunctionContext_burn [some a0] σ (retQ Q) (fun x _ σ1 => E x σ1)) : CS1 c.toCx r (.ref A.f_FunctionContext_burn) [a0] σ Q E t := (cod_FunctionContext_burn hr q).call
theorem cod_FunctionContext_is_true {c : CX} {r : Nat} (hr : 1 ≤ r) {a0 a1 : MV} {σ : Hp} {Q E : MV → Hp → Prop} (q : swps Tb (CSf c.toCx) (r - 1) M.FunctionContext_is_true [some a0, some a1] σ (retQ Q) (fun x _ σ1 => E x σ1)) : CodeSpec c.toCx r (.ref A.f_FunctionContext_is_true) [a0, a1] σ Q E := cod_of hr F.FunctionContext_is_true 32 rfl rfl q
theorem cal_FunctionContext_is_true {c : CX} {r : Nat} (hr : 1 ≤ r) {a0 a1 : MV} {σ : Hp} {Q E : MV → Hp → Prop} {t : Tk Q E} (q : swps Tb (CSf c.toCx) (r - 1) M.FunctionContext_is_true [some a0, some a1] σ (retQ Q) (fun x _ σ1 => E x σ1)) : CS1 c.toCx r (.ref A.f_FunctionContext_is_true) [a0, a1] σ Q E t := (cod_FunctionContext_is_true hr q).call
theorem cod_run_block {c : CX} {r : Nat} (hr : 1 ≤ r) {a0 a1 : MV} {σ : Hp} {Q E : MV → Hp → Prop} (q : swps Tb (CSf c.toCx) (r - 1) M.run_block [some a0, some a1, none, none] σ (retQ Q) (fun x _ σ1 => E x σ1)) : CodeSpec c.toCx r (.ref A.f_run_block) [a0, a1] σ Q E := cod_of hr F.run_block 33 rfl rfl q
theorem cal_run_block {c : CX} {r : Nat} (hr : 1 ≤ r) {a0 a1 : MV} {σ : Hp} {Q E : MV → Hp → Prop} {t : Tk Q E} (q : swps Tb (CSf c.toCx) (r - 1) M.run_block [some a0, some a1, none, none] σ (retQ Q) (fun x _ σ1 => E x σ1)) : CS1 c.toCx r (.ref A.f_run_block) [a0, a1] σ Q E t := (cod_run_block hr q).call
theorem cod_run_set {c : CX} {r : Nat} (hr : 1 ≤ r) {a0 a1 : MV} {σ : Hp} {Q E : MV → Hp → Prop} (q : swps Tb (CSf c.toCx) (r - 1) M.run_set [some a0, some a1, none, none] σ (retQ Q) (fun x _ σ1 => E x σ1)) : CodeSpec c.toCx r (.ref A.f_run_set) [a0, a1] σ Q E := cod_of hr F.run_set 34 rfl rfl q
theorem cal_run_set {c : CX} {r : Nat} (hr : 1 ≤ r) {a0 a1 : MV} {σ : Hp} {Q E : MV → Hp → Prop} {t : Tk Q E} (q : swps Tb (CSf c.toCx) (r - 1) M.run_set [some a0, some a1, none, none] σ (retQ Q) (fun x _ σ1 => E x σ1)) : CS1 c.toCx r (.ref A.f_run_set) [a0, a1] σ Q E t := (cod_run_set hr q).call
theorem cod_run_while {c : CX} {r : Nat} (hr : 1 ≤ r) {a0 a1 a2 a3 : MV} {σ : Hp} {Q E : MV → Hp → Prop} (q : swps Tb (CSf c.toCx) (r - 1) M.run_while [some a0, some a1, some a2, some a3, none] σ (retQ Q) (fun x _ σ1 => E x σ1)) : CodeSpec c.toCx r (.ref A.f_run_while) [a0, a1, a2, a3] σ Q E := cod_of hr F.run_while 35 rfl rfl q
theorem cal_run_while {c : CX} {r : Nat} (hr : 1 ≤ r) {a0 a1 a2 a3 : MV} {σ : Hp} {Q E : MV → Hp → Prop} {t : Tk Q E} (q : swps Tb (CSf c.toCx) (r - 1) M.run_while [some a0, some a1, some a2, some a3, none] σ (retQ Q) (fun x _ σ1 => E x σ1)) : CS1 c.toCx r (.ref A.f_run_while) [a0, a1, a2, a3] σ Q E t := (cod_run_while hr q).call
theorem cod_run_statement {c : CX} {r : Nat} (hr : 1 ≤ r) {a0 a1 : MV} {σ : Hp} {Q E : MV → Hp → Prop} (q : swps Tb (CSf c.toCx) (r - 1) M.run_statement [some a0, some a1, none] σ (retQ Q) (fun x _ σ1 => E x σ1)) : CodeSpec c.toCx r (.ref A.f_run_statement) [a0, a1] σ Q E := cod_of hr F.run_statement 36 rfl rfl q
theorem cal_run_statement {c : CX} {r : Nat} (hr : 1 ≤ r) {a0 a1 : MV} {σ : Hp} {Q E : MV → Hp → Prop} {t : Tk Q E} (q : swps Tb (CSf c.toCx) (r - 1) M.run_statement [some a0, some a1, none] σ (retQ Q) (fun x _ σ1 => E x σ1)) : CS1 c.toCx r (.ref A.f_run_statement) [a0, a1] σ Q E t := (cod_run_statement hr q).call
theorem cod_net_kinds {c : CX} {r : Nat} (hr : 1 ≤ r) {σ : Hp} {Q E : MV → Hp → Prop} (q : swps Tb (CSf c.toCx) (r - 1) M.net_kinds [] σ (retQ Q) (fun x _ σ1 => E x σ1)) : CodeSpec c.toCx r (.ref A.f_net_kinds) [] σ Q E := cod_of hr F.net_kinds 37 rfl rfl q
theorem cal_net_kinds {c : CX} {r : Nat} (hr : 1 ≤ r) {σ : Hp} {Q E : MV → Hp → Prop} {t : Tk Q E} (q : swps Tb (CSf c.toCx) (r - 1) M.net_kinds [] σ (retQ Q) (fun x _ σ1 => E x σ1)) : CS1 c.toCx r (.ref A.f_net_kinds) [] σ Q E t := (cod_net_kinds hr q).call
theorem cod_Signal___init__ {c : CX} {r : Nat} (hr : 1 ≤ r) {a0 a1 a2 a3 a4 a5 a6 a7 : MV} {σ : Hp} {Q E : MV → Hp → Prop} (q : swps Tb (CSf c.toCx) (r - 1) M.Signal___init__ [some a0, some a1, some a2, some a3, some a4, some a5, some a6, some a7] σ (retQ Q) (fun x _ σ1 => E x σ1)) : CodeSpec c.toCx r (.ref A.f_Signal___init__) [a0, a1, a2, a3, a4, a5, a6, a7] σ Q E := cod_of hr F.Signal___init__ 38 rfl rfl q
theorem cod_Signal_is_net {c : CX} {r : Nat} (hr : 1 ≤ r) {a0 : MV} {σ : Hp} {Q E : MV → Hp → Prop} (q : swps Tb (CSf c.toCx) (r - 1) M.Signal_is_net [some a0] σ (retQ Q) (fun x _ σ1 => E x σ1)) : CodeSpec c.toCx r (.ref A.f_Signal_is_net) [a0] σ Q E := cod_of hr F.Signal_is_net 39 rfl rfl q
theorem cal_Signal_is_net {c : CX} {r : Nat} (hr : 1 ≤ r) {a0 : MV} {σ : Hp} {Q E : MV → Hp → Prop} {t : Tk Q E} (q : swps Tb (CSf c.toCx) (r - 1) M.Signal_is_net [some a0] σ (retQ Q) (fun x _ σ1 => E x σ1)) : CS1 c.toCx r (.ref A.f_Signal_is_net) [a0] σ Q E t := (cod_Signal_is_net hr q).call
theorem cod_Routine___init__ {c : CX} {r : Nat} (hr : 1 ≤ r) {a0 a1 a2 a3 a4 a5 : MV} {σ : Hp} {Q E : MV → Hp → Prop} (q : swps Tb (CSf c.toCx) (r - 1) M.Routine___init__ [some a0, some a1, some a2, some a3, some a4, some a5] σ (retQ Q) (fun x _ σ1 => E x σ1)) : CodeSpec c.toCx r (.ref A.f_Routine___init__) [a0, a1, a2, a3, a4, a5] σ Q E := cod_of hr F.Routine___init__ 40 rfl rfl q
theorem cod_Design___init__ {c : CX} {r : Nat} (hr : 1 ≤ r) {a0 : MV} {σ : Hp} {Q E : MV → Hp → Prop} (q : swps Tb (CSf c.toCx) (r - 1) M.Design___init__ [some a0] σ (retQ Q) (fun x _ σ1 => E x σ1)) : CodeSpec c.toCx r (.ref A.f_Design___init__) [a0] σ Q E := cod_of hr F.Design___init__ 41 rfl rfl q
theorem cod_Design_add_signal {c : CX} {r : Nat} (hr : 1 ≤ r) {a0 a1 a2 a3 a4 a5 a6 a7 : MV} {σ : Hp} {Q E : MV → Hp → Prop} (q : swps Tb (CSf c.toCx) (r - 1) M.Design_add_signal [some a0, some a1, some a2, some a3, some a4, some a5, some a6, some a7, none] σ (retQ Q) (fun x _ σ1 => E x σ1)) : CodeSpec c.toCx r (.ref A.f_Design_add_signal) [a0, a1, a2, a3, a4, a5, a6, a7] σ Q E := cod_of hr F.Design_add_signal 42 rfl rfl q
theorem cal_Design_add_signal {c : CX} {r : Nat} (hr : 1 ≤ r) {a0 a1 a2 a3 a4 a5 a6 a7 : MV} {σ : Hp} {Q E : MV → Hp → Prop} {t : Tk Q E} (q : swps Tb (CSf c.toCx) (r - 1) M.Design_add_signal [some a0, some a1, some a2, some a3, some a4, some a5, some a6, some a7, none] σ (retQ Q) (fun x _ σ1 => E x σ1)) : CS1 c.toCx r (.ref A.f_Design_add_signal) [a0, a1, a2, a3, a4, a5, a6, a7] σ Q E t := (cod_Design_add_signal hr q).call
theorem cod_Design_add_routine {c : CX} {r : Nat} (hr : 1 ≤ r) {a0 a1 a2 a3 a4 : MV} {σ : Hp} {Q E : MV → Hp → Prop} (q : swps Tb (CSf c.toCx) (r - 1) M.Design_add_routine [some a0, some a1, some a2, some a3, some a4, none] σ (retQ Q) (fun x _ σ1 => E x σ1)) : CodeSpec c.toCx r (.ref A.f_Design_add_routine) [a0, a1, a2, a3, a4] σ Q E := cod_of hr F.Design_add_routine 43 rfl rfl q
theorem cal_Design_add_routine {c : CX} {r : Nat} (hr : 1 ≤ r) {a0 a1 a2 a3 a4 : MV} {σ : Hp} {Q E : MV → Hp → Prop} {t : Tk Q E} (q : swps Tb (CSf c.toCx) (r - 1) M.Design_add_routine [some a0, some a1, some a2, some a3, some a4, none] σ (retQ Q) (fun x _ σ1 => E x σ1)) : CS1 c.toCx r (.ref A.f_Design_add_routine) [a0, a1, a2, a3, a4] σ Q E t := (cod_Design_add_routine hr q).call
theorem cod_Design_routine {c : CX} {r : Nat} (hr : 1 ≤ r) {a0 a1 : MV} {σ : Hp} {Q E : MV → Hp → Prop} (q : swps Tb (CSf c.toCx) (r - 1) M.Design_routine [some a0, some a1, none] σ (retQ Q) (fun x _ σ1 => E x σ1)) : CodeSpec c.toCx r (.ref A.f_Design_routine) [a0, a1] σ Q E := cod_of hr F.Design_routine 44 rfl rfl q
theorem cal_Design_routine {c : CX} {r : Nat} (hr : 1 ≤ r) {a0 a1 : MV} {σ : Hp} {Q E : MV → Hp → Prop} {t : Tk Q E} (q : swps Tb (CSf c.toCx) (r - 1) M.Design_routine [some a0, some a1, none] σ (retQ Q) (fun x _ σ1 => E x σ1)) : CS1 c.toCx r (.ref A.f_Design_routine) [a0, a1] σ Q E t := (cod_Design_routine hr q).call
theorem cod__law_row {c : CX} {r : Nat} (hr : 1 ≤ r) {a0 : MV} {σ : Hp} {Q E : MV → Hp → Prop} (q : swps Tb (CSf c.toCx) (r - 1) M.xlaw_row [some a0, none, none, none, none] σ (retQ Q) (fun x _ σ1 => E x σ1)) : CodeSpec c.toCx r (.ref A.f__law_row) [a0] σ Q E := cod_of hr F.xlaw_row 45 rfl rfl q
theorem cal__law_row {c : CX} {r : Nat} (hr : 1 ≤ r) {a0 : MV} {σ : Hp} {Q E : MV → Hp → Prop} {t : Tk Q E} (q : swps Tb (CSf c.toCx) (r - 1) M.xlaw_row [some a0, none, none, none, none] σ (retQ Q) (fun x _ σ1 => E x σ1)) : CS1 c.toCx r (.ref A.f__law_row) [a0] σ Q E t := (cod__law_row hr q).call
theorem cod__law_next {c : CX} {r : Nat} (hr : 1 ≤ r) {a0 : MV} {σ : Hp} {Q E : MV → Hp → Prop} (q : swps Tb (CSf c.toCx) (r - 1) M.xlaw_next [some a0] σ (retQ Q) (fun x _ σ1 => E x σ1)) : CodeSpec c.toCx r (.ref A.f__law_next) [a0] σ Q E := cod_of hr F.xlaw_next 46 rfl rfl q
theorem cal__law_next {c : CX} {r : Nat} (hr : 1 ≤ r) {a0 : MV} {σ : Hp} {Q E : MV → Hp → Prop} {t : Tk Q E} (q : swps Tb (CSf c.toCx) (r - 1) M.xlaw_next [some a0] σ (retQ Q) (fun x _ σ1 => E x σ1)) : CS1 c.toCx r (.ref A.f__law_next) [a0] σ Q E t := (cod__law_next hr q).call
theorem cod__law_bits {c : CX} {r : Nat} (hr : 1 ≤ r) {a0 a1 : MV} {σ : Hp} {Q E : MV → Hp → Prop} (q : swps Tb (CSf c.toCx) (r - 1) M.xlaw_bits [some a0, some a1, none, none, none, none] σ (retQ Q) (fun x _ σ1 => E x σ1)) : CodeSpec c.toCx r (.ref A.f__law_bits) [a0, a1] σ Q E := cod_of hr F.xlaw_bits 47 rfl rfl q
theorem cal__law_bits {c : CX} {r : Nat} (hr : 1 ≤ r) {a0 a1 : MV} {σ : Hp} {Q E : MV → Hp → Prop} {t : Tk Q E} (q : swps Tb (CSf c.toCx) (r - 1) M.xlaw_bits [some a0, some a1, none, none, none, none] σ (retQ Q) (fun x _ σ1 => E x σ1)) : CS1 c.toCx r (.ref A.f__law_bits) [a0, a1] σ Q E t := (cod__law_bits hr q).call
theorem cod__law_made {c : CX} {r : Nat} (hr : 1 ≤ r) {a0 : MV} {σ : Hp} {Q E : MV → Hp → Prop} (q : swps Tb (CSf c.toCx) (r - 1) M.xlaw_made [some a0, none, none, none] σ (retQ Q) (fun x _ σ1 => E x σ1)) : CodeSpec c.toCx r (.ref A.f__law_made) [a0] σ Q E := cod_of hr F.xlaw_made 48 rfl rfl q
theorem cal__law_made {c : CX} {r : Nat} (hr : 1 ≤ r) {a0 : MV} {σ : Hp} {Q E : MV → Hp → Prop} {t : Tk Q E} (q : swps Tb (CSf c.toCx) (r - 1) M.xlaw_made [some a0, none, none, none] σ (retQ Q) (fun x _ σ1 => E x σ1)) : CS1 c.toCx r (.ref A.f__law_made) [a0] σ Q E t := (cod__law_made hr q).call
theorem cod__law_lv {c : CX} {r : Nat} (hr : 1 ≤ r) {a0 a1 a2 : MV} {σ : Hp} {Q E : MV → Hp → Prop} (q : swps Tb (CSf c.toCx) (r - 1) M.xlaw_lv [some a0, some a1, some a2] σ (retQ Q) (fun x _ σ1 => E x σ1)) : CodeSpec c.toCx r (.ref A.f__law_lv) [a0, a1, a2] σ Q E := cod_of hr F.xlaw_lv 49 rfl rfl q
theorem cal__law_lv {c : CX} {r : Nat} (hr : 1 ≤ r) {a0 a1 a2 : MV} {σ : Hp} {Q E : MV → Hp → Prop} {t : Tk Q E} (q : swps Tb (CSf c.toCx) (r - 1) M.xlaw_lv [some a0, some a1, some a2] σ (retQ Q) (fun x _ σ1 => E x σ1)) : CS1 c.toCx r (.ref A.f__law_lv) [a0, a1, a2] σ Q E t := (cod__law_lv hr q).call
theorem cod__law_function {c : CX} {r : Nat} (hr : 1 ≤ r) {a0 a1 a2 a3 : MV} {σ : Hp} {Q E : MV → Hp → Prop} (q : swps Tb (CSf c.toCx) (r - 1) M.xlaw_function [some a0, some a1, some a2, some a3, none] σ (retQ Q) (fun x _ σ1 => E x σ1)) : CodeSpec c.toCx r (.ref A.f__law_function) [a0, a1, a2, a3] σ Q E := cod_of hr F.xlaw_function 50 rfl rfl q
theorem cal__law_function {c : CX} {r : Nat} (hr : 1 ≤ r) {a0 a1 a2 a3 : MV} {σ : Hp} {Q E : MV → Hp → Prop} {t : Tk Q E} (q : swps Tb (CSf c.toCx) (r - 1) M.xlaw_function [some a0, some a1, some a2, some a3, none] σ (retQ Q) (fun x _ σ1 => E x σ1)) : CS1 c.toCx r (.ref A.f__law_function) [a0, a1, a2, a3] σ Q E t := (cod__law_function hr q).call
theorem cod__law_refused {c : CX} {r : Nat} (hr : 1 ≤ r) {a0 a1 a2 : MV} {σ : Hp} {Q E : MV → Hp → Prop} (q : swps Tb (CSf c.toCx) (r - 1) M.xlaw_refused [some a0, some a1, some a2, none] σ (retQ Q) (fun x _ σ1 => E x σ1)) : CodeSpec c.toCx r (.ref A.f__law_refused) [a0, a1, a2] σ Q E := cod_of hr F.xlaw_refused 51 rfl rfl q
theorem cal__law_refused {c : CX} {r : Nat} (hr : 1 ≤ r) {a0 a1 a2 : MV} {σ : Hp} {Q E : MV → Hp → Prop} {t : Tk Q E} (q : swps Tb (CSf c.toCx) (r - 1) M.xlaw_refused [some a0, some a1, some a2, none] σ (retQ Q) (fun x _ σ1 => E x σ1)) : CS1 c.toCx r (.ref A.f__law_refused) [a0, a1, a2] σ Q E t := (cod__law_refused hr q).call
theorem cod_law {c : CX} {r : Nat} (hr : 1 ≤ r) {a0 : MV} {σ : Hp} {Q E : MV → Hp → Prop} (q : swps Tb (CSf c.toCx) (r - 1) M.law [some a0, none, none, none, none, none, none, none, none, none, none, none, none, none, none, none, none, none, none, none, none, none, none, none, none, none, none, none] σ (retQ Q) (fun x _ σ1 => E x σ1)) : CodeSpec c.toCx r (.ref A.f_law) [a0] σ Q E := cod_of hr F.law 52 rfl rfl q
theorem cal_law {c : CX} {r : Nat} (hr : 1 ≤ r) {a0 : MV} {σ : Hp} {Q E : MV → Hp → Prop} {t : Tk Q E} (q : swps Tb (CSf c.toCx) (r - 1) M.law [some a0, none, none, none, none, none, none, none, none, none, none, none, none, none, none, none, none, none, none, none, none, none, none, none, none, none, none, none] σ (retQ Q) (fun x _ σ1 => E x σ1)) : CS1 c.toCx r (.ref A.f_law) [a0] σ Q E t := (cod_law hr q).call
theorem new_Store {c : CX} {r : Nat} (hr : 1 ≤ r) {args : List MV} {σ : Hp} {Q E : MV → Hp → Prop} {t : Tk Q E} (q : ∀ a, σ a = none → CodeSpec c.toCx (r - 1) (.ref A.f_Store___init__) (.ref a :: args) (σ.put a (.inst A.c_Store [])) (fun v σ1 => v = .none ∧ Q (.ref a) σ1) E) : CS1 c.toCx r (.ref A.c_Store) args σ Q E t := new_of hr 0 rfl q
theorem new_FunctionContext {c : CX} {r : Nat} (hr : 1 ≤ r) {args : List MV} {σ : Hp} {Q E : MV → Hp → Prop} {t : Tk Q E} (q : ∀ a, σ a = none → CodeSpec c.toCx (r - 1) (.ref A.f_FunctionContext___init__) (.ref a :: args) (σ.put a (.inst A.c_FunctionContext [])) (fun v σ1 => v = .none ∧ Q (.ref a) σ1) E) : CS1 c.toCx r (.ref A.c_FunctionContext) args σ Q E t := new_of hr 1 rfl q
theorem new_Signal {c : CX} {r : Nat} (hr : 1 ≤ r) {args : List MV} {σ : Hp} {Q E : MV → Hp → Prop} {t : Tk Q E} (q : ∀ a, σ a = none → CodeSpec c.toCx (r - 1) (.ref A.f_Signal___init__) (.ref a :: args) (σ.put a (.inst A.c_Signal [])) (fun v σ1 => v = .none ∧ Q (.ref a) σ1) E) : CS1 c.toCx r (.ref A.c_Signal) args σ Q E t := new_of hr 2 rfl q
theorem new_Routine {c : CX} {r : Nat} (hr : 1 ≤ r) {args : List MV} {σ : Hp} {Q E : MV → Hp → Prop} {t : Tk Q E} (q : ∀ a, σ a = none → CodeSpec c.toCx (r - 1) (.ref A.f_Routine___init__) (.ref a :: args) (σ.put a (.inst A.c_Routine [])) (fun v σ1 => v = .none ∧ Q (.ref a) σ1) E) : CS1 c.toCx r (.ref A.c_Routine) args σ Q E t := new_of hr 3 rfl q
theorem new_Design {c : CX} {r : Nat} (hr : 1 ≤ r) {args : List MV} {σ : Hp} {Q E : MV → Hp → Prop} {t : Tk Q E} (q : ∀ a, σ a = none → CodeSpec c.toCx (r - 1) (.ref A.f_Design___init__) (.ref a :: args) (σ.put a (.inst A.c_Design [])) (fun v σ1 => v = .none ∧ Q (.ref a) σ1) E) : CS1 c.toCx r (.ref A.c_Design) args σ Q E t := new_of hr 4 rfl q
theorem new_DesignError {c : CX} {r : Nat} (hr : 1 ≤ r) {args : List MV} (hl : args.length ≤ 1000) {σ : Hp} {Q E : MV → Hp → Prop} {t : Tk Q E} (q : ∀ a, σ a = none → CodeSpec c.toCx (r - 1) (.ref A.f_GateloomError___init__) (.ref a :: args) (σ.put a (.exc A.c_DesignError [])) (fun v σ1 => v = .none ∧ Q (.ref a) σ1) E) : CS1 c.toCx r (.ref A.c_DesignError) args σ Q E t := exc_of hr 0 rfl hl q
theorem new_LimitReached {c : CX} {r : Nat} (hr : 1 ≤ r) {args : List MV} (hl : args.length ≤ 1000) {σ : Hp} {Q E : MV → Hp → Prop} {t : Tk Q E} (q : ∀ a, σ a = none → CodeSpec c.toCx (r - 1) (.ref A.f_GateloomError___init__) (.ref a :: args) (σ.put a (.exc A.c_LimitReached [])) (fun v σ1 => v = .none ∧ Q (.ref a) σ1) E) : CS1 c.toCx r (.ref A.c_LimitReached) args σ Q E t := exc_of hr 1 rfl hl q
end Mine
end
section
open PySem PySem.W PyProof.Rows
namespace Mine
theorem bAnd (m n : Nat) : Builtin.bitAnd (m : Int) (n : Int) = ((m &&& n : Nat) : Int) := by
  unfold Builtin.bitAnd
  rw [decide_eq_true (Int.natCast_nonneg m), decide_eq_true (Int.natCast_nonneg n)]; simp
theorem bOr (m n : Nat) : Builtin.bitOr (m : Int) (n : Int) = ((m ||| n : Nat) : Int) := by
  unfold Builtin.bitOr Builtin.bitAnd Builtin.bitNot
  rw [decide_eq_false (by lia), decide_eq_false (by lia)]
  simp only
  have e1 : (-(-(m : Int) - 1) - 1).toNat = m := by lia
  have e2 : (-(-(n : Int) - 1) - 1).toNat = n := by lia
  rw [e1, e2]; lia
theorem or_xor_and : ∀ (k m n : Nat), m ≤ k → (m ||| n) = (m ^^^ n) + (m &&& n)
  | 0, m, n, h => by
    have : m = 0 := by lia
    subst this; simp
  | k + 1, m, n, h => by
    by_cases hm : m = 0
    · subst hm; simp
    have ih := or_xor_and k (m / 2) (n / 2) (by lia)
    have a1 : (m ||| n) / 2 = (m / 2 ||| n / 2) := by apply Nat.eq_of_testBit_eq; intro i; rw [← Nat.testBit_add_one, Nat.testBit_or, Nat.testBit_or, Nat.testBit_add_one, Nat.testBit_add_one]
    have a2 : (m ^^^ n) / 2 = (m / 2 ^^^ n / 2) := by apply Nat.eq_of_testBit_eq; intro i; rw [← Nat.testBit_add_one, Nat.testBit_xor, Nat.testBit_xor, Nat.testBit_add_one, Nat.testBit_add_one]
    have a3 : (m &&& n) / 2 = (m / 2 &&& n / 2) := by apply Nat.eq_of_testBit_eq; intro i; rw [← Nat.testBit_add_one, Nat.testBit_and, Nat.testBit_and, Nat.testBit_add_one, Nat.testBit_add_one]
    have b1 : (m ||| n) % 2 = 1 ↔ (m % 2 = 1 ∨ n % 2 = 1) := Nat.or_mod_two_eq_one
    have b2 : (m ^^^ n) % 2 = 1 ↔ ¬ (m % 2 = 1 ↔ n % 2 = 1) := Nat.xor_mod_two_eq_one
    have b3 : (m &&& n) % 2 = 1 ↔ (m % 2 = 1 ∧ n % 2 = 1) := Nat.and_mod_two_eq_one
    lia
theorem bXor (m n : Nat) : Builtin.bitXor (m : Int) (n : Int) = ((m ^^^ n : Nat) : Int) := by
  unfold Builtin.bitXor
  rw [bOr, bAnd, or_xor_and m m n (Nat.le_refl _)]; lia
theorem bAndMask (x : Int) (w : Nat) : Builtin.bitAnd x ((2 ^ w - 1 : Nat) : Int) = x % (2 ^ w : Nat) := by
  have hp : 0 < 2 ^ w := Nat.two_pow_pos w
  unfold Builtin.bitAnd
  rw [decide_eq_true (Int.natCast_nonneg (2 ^ w - 1))]
  by_cases h : 0 ≤ x
  · rw [decide_eq_true h]
    simp only [Int.toNat_natCast]
    rw [Nat.and_two_pow_sub_one_eq_mod]
    obtain ⟨n, rfl⟩ := Int.eq_ofNat_of_zero_le h
    simp
  · rw [decide_eq_false h]
    simp only [Int.toNat_natCast, Builtin.bitNot]
    rw [Nat.and_comm, Nat.and_two_pow_sub_one_eq_mod]
    obtain ⟨n, rfl⟩ : ∃ n : Nat, x = -(n : Int) - 1 := ⟨(-x - 1).toNat, by lia⟩
    have e1 : (-(-(n : Int) - 1) - 1).toNat = n := by lia
    rw [e1]
    have e2 : (-(n : Int) - 1) = ((2 ^ w - 1 - n % 2 ^ w : Nat) : Int) + (2 ^ w : Nat) * (-(n / 2 ^ w : Nat) - 1) := by
      have := Nat.div_add_mod n (2 ^ w)
      have lt := Nat.mod_lt n hp
      have e : ((2 ^ w - 1 - n % 2 ^ w : Nat) : Int) = (2 ^ w : Nat) - 1 - (n % 2 ^ w : Nat) := by lia
      rw [e, Int.mul_sub, Int.mul_neg]
      have : ((2 ^ w : Nat) : Int) * ((n / 2 ^ w : Nat) : Int) + ((n % 2 ^ w : Nat) : Int) = (n : Int) := by exact_mod_cast this
      lia
    rw [e2, Int.add_mul_emod_self_left, Int.emod_eq_of_lt (by lia) (by have := Nat.mod_lt n hp; lia)]
    have := Nat.mod_lt n hp
    lia
/-! vectors by codes -/
noncomputable def lo2 : List Nat → Nat
  | [] => 0
  | c :: r => c % 2 + 2 * lo2 r
noncomputable def hi2 : List Nat → Nat
  | [] => 0
  | c :: r => c / 2 + 2 * hi2 r
noncomputable def V (cs : List Nat) : MV := .tup [.int cs.length, .int (lo2 cs), .int (hi2 cs)]
noncomputable def Ok (cs : List Nat) : Prop := ∀ c ∈ cs, c < 4
noncomputable def at0 (cs : List Nat) (i : Nat) : Nat := (cs[i]?).getD 0
theorem at0_lt {cs : List Nat} (h : Ok cs) (i : Nat) : at0 cs i < 4 := by
  unfold at0
  cases q : cs[i]? with
  | none => decide
  | some c => exact h c (List.mem_of_getElem? q)
theorem at0_nil (i : Nat) : at0 [] i = 0 := by simp [at0]
theorem at0_zero (c : Nat) (r : List Nat) : at0 (c :: r) 0 = c := by simp [at0]
theorem at0_succ (c : Nat) (r : List Nat) (i : Nat) : at0 (c :: r) (i + 1) = at0 r i := by simp [at0]
theorem at0_ge {cs : List Nat} {i : Nat} (h : cs.length ≤ i) : at0 cs i = 0 := by unfold at0; rw [List.getElem?_eq_none h]; rfl
theorem Ok.tail {c : Nat} {r : List Nat} (h : Ok (c :: r)) : Ok r := fun x hx => h x (.tail _ hx)
theorem lo2_cons {c : Nat} {r : List Nat} : lo2 (c :: r) = c % 2 + 2 * lo2 r := rfl
theorem hi2_cons {c : Nat} {r : List Nat} : hi2 (c :: r) = c / 2 + 2 * hi2 r := rfl
theorem lo_bit : ∀ (cs : List Nat) (i : Nat), (lo2 cs).testBit i = decide (at0 cs i % 2 = 1)
  | [], i => by rw [at0_nil]; exact Nat.zero_testBit i
  | c :: r, 0 => by
    rw [Nat.testBit_zero, at0_zero, lo2_cons]
    congr 1
    rw [eq_iff_iff]; lia
  | c :: r, i + 1 => by
    rw [Nat.testBit_add_one, at0_succ, ← lo_bit r i, lo2_cons]
    congr 1; lia
theorem hi_bit : ∀ (cs : List Nat) (i : Nat), Ok cs → (hi2 cs).testBit i = decide (2 ≤ at0 cs i)
  | [], i, _ => by rw [at0_nil]; exact Nat.zero_testBit i
  | c :: r, 0, h => by
    rw [Nat.testBit_zero, at0_zero, hi2_cons]
    have := h c (.head _)
    congr 1
    rw [eq_iff_iff]; lia
  | c :: r, i + 1, h => by
    rw [Nat.testBit_add_one, at0_succ, ← hi_bit r i h.tail, hi2_cons]
    have := h c (.head _)
    congr 1; lia
theorem lo_lt : ∀ (cs : List Nat), lo2 cs < 2 ^ cs.length
  | [] => Nat.one_pos
  | c :: r => by have := lo_lt r; rw [lo2_cons, List.length_cons, Nat.pow_succ]; lia
theorem hi_lt : ∀ (cs : List Nat), Ok cs → hi2 cs < 2 ^ cs.length
  | [], _ => Nat.one_pos
  | c :: r, h => by have := hi_lt r h.tail; have := h c (.head _); rw [hi2_cons, List.length_cons, Nat.pow_succ]; lia
theorem codes_ext : ∀ {xs ys : List Nat}, xs.length = ys.length → (∀ i, i < xs.length → at0 xs i = at0 ys i) → xs = ys
  | [], [], _, _ => rfl
  | [], _ :: _, h, _ => by simp at h
  | _ :: _, [], h, _ => by simp at h
  | x :: xs, y :: ys, h, e => by
    have h0 : x = y := by have := e 0 (by simp); rwa [at0_zero, at0_zero] at this
    have ht : xs = ys := codes_ext (by simpa using h) fun i hi => by have := e (i + 1) (by simpa using hi); rwa [at0_succ, at0_succ] at this
    rw [h0, ht]
theorem V_inj {xs ys : List Nat} (hx : Ok xs) (hy : Ok ys) (hl : xs.length = ys.length) (h1 : lo2 xs = lo2 ys) (h2 : hi2 xs = hi2 ys) : xs = ys := by
  refine codes_ext hl fun i _ => ?_
  have a := congrArg (·.testBit i) h1
  have b := congrArg (·.testBit i) h2
  simp only [lo_bit, hi_bit _ _ hx, hi_bit _ _ hy, decide_eq_decide] at a b
  have := at0_lt hx i
  have := at0_lt hy i
  lia
noncomputable def gen (w : Nat) (f : Nat → Nat) : List Nat := (List.range w).map f
theorem gen_len (w : Nat) (f : Nat → Nat) : (gen w f).length = w := by simp [gen]
theorem gen_at (w : Nat) (f : Nat → Nat) (i : Nat) : at0 (gen w f) i = if i < w then f i else 0 := by
  unfold at0 gen
  rw [List.getElem?_map]
  by_cases h : i < w
  · rw [List.getElem?_range h, if_pos h]; rfl
  · rw [List.getElem?_eq_none (by simp; lia), if_neg h]; rfl
theorem gen_ok {w : Nat} {f : Nat → Nat} (h : ∀ i, i < w → f i < 4) : Ok (gen w f) := fun c hc => by
  unfold gen at hc
  obtain ⟨i, hi, rfl⟩ := List.mem_map.mp hc
  exact h i (List.mem_range.mp hi)
theorem V_of {cs : List Nat} (h : Ok cs) {w a b : Nat} (hw : w = cs.length) (ha : ∀ i, a.testBit i = decide (at0 cs i % 2 = 1)) (hb : ∀ i, b.testBit i = decide (2 ≤ at0 cs i)) : MV.tup [.int w, .int a, .int b] = V cs := by
  have e1 : a = lo2 cs := Nat.eq_of_testBit_eq fun i => by rw [ha, lo_bit]
  have e2 : b = hi2 cs := Nat.eq_of_testBit_eq fun i => by rw [hb, hi_bit _ _ h]
  rw [e1, e2, hw]; rfl
end Mine
end
section
open PySem PySem.W PyProof.Rows
set_option maxRecDepth 100000
set_option maxHeartbeats 1000000
namespace Mine
theorem le0 {k m r : Nat} (h : m ≤ r) (e : Nat.ble k m = true) : k ≤ r := Nat.le_trans (Nat.le_of_ble_eq_true e) h
theorem le1 {k m r : Nat} (h : m ≤ r) (e : Nat.ble (k + 1) m = true) : k ≤ r - 1 := Nat.le_sub_one_of_lt (Nat.le_trans (Nat.le_of_ble_eq_true e) h)
theorem le2 {k m r : Nat} (h : m ≤ r) (e : Nat.ble (k + 2) m = true) : k ≤ r - 1 - 1 := Nat.le_sub_one_of_lt (le1 h e)
theorem ne0 {m r : Nat} (h : m ≤ r) (e : Nat.ble 1 m = true) : r ≠ 0 := Nat.ne_of_gt (Nat.le_trans (Nat.le_of_ble_eq_true e) h)
theorem ne1 {m r : Nat} (h : m ≤ r) (e : Nat.ble 2 m = true) : r - 1 ≠ 0 := Nat.ne_of_gt (le1 h e)
local macro_rules | `(tactic| walk_at "mini") => do
  let l := ("s_expr s_cont s_ret s_asg_nm s_asg_attr s_asg_item s_asg_tup s_aug_nm s_aug_attr s_aug_item s_ite s_whl s_for s_tryF s_tryX s_rse s_nil e_none e_bool e_int e_sym e_loc e_con e_gint e_attr e_item e_slice e_bin e_not e_neg e_and e_or e_cmp e_ite e_tup e_list e_dI e_dS0 e_call e_meth e_comp es_nil es_cons b_one b_more t_not t_and t_or t_ite t_cmp t_bool t_loc t_attr t_item t_bin t_call t_meth at_nil at_cons c_nil c_one seqQ_next seqQ_cont seqQ_brk seqQ_ret retQ_ret retQ_next loopQ_next loopQ_cont loopQ_ret csf_eq negP_int tupP_tup intsP_int locP_some setP_zero setP_succ manyP_nil manyP_cons bin_add bin_sub bin_mul bin_div bin_mod bin_pow bin_shl bin_shr bin_and bin_or bin_xor bin_tup bin_list bin_rep bin_str cmp_eq cmp_ne cmp_lt cmp_le cmp_gt cmp_ge cmp_sy cmp_sn is_n is_i is_b is_s is_t is_r no_n no_i no_b no_s no_t no_r cmp_tt cmp_nt cmp_it cmp_ll cmp_nl tr_b tr_i tr_n it0 it1 it2 it3 it4 it5 ite_bt ite_bf if_true if_false ite_tt ite_tf ite_ft ite_ff not_t not_f Nat.reduceBEq List.getElem?_cons_zero List.getElem?_cons_succ true_and List.nil_append List.cons_append".splitOn " ").toArray.map fun s => (⟨Lean.mkIdent s.toName⟩ : Lean.TSyntax `term)
  `(tactic| try simp only [$[$l:term],*])
local macro_rules | `(tactic| walk_at "st") => `(tactic| ((first | refine s_lastR (by assumption) rfl ?_ | (refine s_stepR (by assumption) rfl ?_; intro _ _) | refine s_last rfl ?_ | (refine s_stepH rfl ?_; intro _ _)); walk_at "mini"))
local macro_rules | `(tactic| walk_at "om") => `(tactic| first | exact le0 (by assumption) rfl | exact le1 (by assumption) rfl | exact ne0 (by assumption) rfl | exact ne1 (by assumption) rfl | exact le2 (by assumption) rfl | lia)
local macro_rules | `(tactic| walk_at "sts") => `(tactic| repeat walk_at "st")
noncomputable def mk (w : Nat) : Nat := 2 ^ w - 1
theorem mk_bit (w i : Nat) : (mk w).testBit i = decide (i < w) := Nat.testBit_two_pow_sub_one ..
theorem mk_lt {w : Nat} (h : w ≤ 60) : mk w < 2 ^ 60 := by
  have : 2 ^ w ≤ 2 ^ 60 := Nat.pow_le_pow_right (by decide) h
  have := Nat.two_pow_pos w
  unfold mk; lia
theorem shr_c (m n : Nat) : (m : Int).fdiv (2 ^ (n : Int).toNat) = ((m >>> n : Nat) : Int) := by
  rw [Int.toNat_natCast, Nat.shiftRight_eq_div_pow]
  have : (2 ^ n : Int) = ((2 ^ n : Nat) : Int) := by simp
  rw [this, Int.fdiv_eq_ediv_of_nonneg _ (Int.natCast_nonneg _)]; rfl
theorem shl_c (m n : Nat) : (m : Int) * 2 ^ (n : Int).toNat = ((m <<< n : Nat) : Int) := by
  rw [Int.toNat_natCast, Nat.shiftLeft_eq]; simp
theorem fits {m : Nat} (h : m < 2 ^ 60) : (m : Int).natAbs < 2 ^ 64 := by
  rw [Int.natAbs_natCast]; exact Nat.lt_of_lt_of_le h (by decide)
theorem mil {n : Nat} (h : n ≤ 100) : 0 ≤ (n : Int) ∧ (n : Int) ≤ 1000000 := by lia
theorem cut_ar {lo L : Int} {n w : Nat} (h20 : n ≤ 20) (h1 : -100 ≤ lo) (hL : (if (n : Int) < lo + w then (n : Int) else lo + w) = L) (hc : ¬ L ≤ (lo.toNat : Int)) :
    ∃ f s k : Nat, lo.toNat = f ∧ (lo.toNat : Int) - lo = s ∧ L - lo.toNat = k ∧ lo = (f : Int) - s ∧ (f = 0 ∨ s = 0) ∧ f + k ≤ n ∧ s + k ≤ w ∧ (f + k = n ∨ s + k = w) ∧ s ≤ 100 := by
  obtain ⟨f, s, e, h0⟩ : ∃ f s : Nat, lo = (f : Int) - s ∧ (f = 0 ∨ s = 0) := by
    rcases Int.eq_nat_or_neg lo with ⟨a, e | e⟩
    · exact ⟨a, 0, by rw [e]; exact (Int.sub_zero _).symm, .inr rfl⟩
    · exact ⟨0, a, by rw [e]; exact (Int.zero_sub _).symm, .inl rfl⟩
  have t : lo.toNat = f := by lia
  have fs : (f : Int) - lo = s := by rw [e]; exact Int.sub_sub_self ..
  have s100 : s ≤ 100 := by lia
  rw [t] at hc ⊢
  clear h20 h1 t
  by_cases h : (n : Int) < lo + w
  · rw [if_pos h] at hL; subst hL
    have fn : f ≤ n := Nat.le_of_lt (Int.ofNat_lt.mp (Int.not_le.mp hc))
    have sw : s + (n - f) ≤ w := by lia
    exact ⟨f, s, n - f, rfl, fs, (Int.ofNat_sub fn).symm, e, h0, Nat.le_of_eq (Nat.add_sub_of_le fn), sw, .inl (Nat.add_sub_of_le fn), s100⟩
  · rw [if_neg h] at hL; subst hL
    have sw : s ≤ w := by lia
    have fn : f + (w - s) ≤ n := by lia
    exact ⟨f, s, w - s, rfl, fs, by rw [e, Int.ofNat_sub sw]; lia, e, h0, fn, Nat.le_of_eq (Nat.add_sub_of_le sw), .inr (Nat.add_sub_of_le sw), s100⟩
theorem no_cut {lo L : Int} {n w i : Nat} (hL : (if (n : Int) < lo + w then (n : Int) else lo + w) = L) (hc : L ≤ (lo.toNat : Int)) (hi : i < w) : ¬ (0 ≤ lo + i ∧ lo + i < n) := by
  by_cases h : (n : Int) < lo + w
  · rw [if_pos h] at hL; subst hL; lia
  · rw [if_neg h] at hL; subst hL; lia
theorem win {f s k n w : Nat} {lo : Int} (e : lo = (f : Int) - s) (h0 : f = 0 ∨ s = 0) (h1 : f + k ≤ n) (h3 : f + k = n ∨ s + k = w) {i : Nat} (hi : i < w) : (s ≤ i ∧ i - s < k) ↔ (0 ≤ lo + i ∧ lo + i < n) := by subst e; lia
theorem win_at {f s : Nat} {lo : Int} (e : lo = (f : Int) - s) {i : Nat} (hi : s ≤ i) : f + (i - s) = (lo + i).toNat := by lia
theorem win_in {s k w i : Nat} (h : s + k ≤ w) (hi : s ≤ i ∧ i - s < k) : i < w := by lia
section
variable {c : CX} {r : Nat} {σ : Hp} {Q E : MV → Hp → Prop} {t : Tk Q E}
theorem max_s {a b : Int} (hr : 1 ≤ r) (q : Q (.int (if b > a then b else a)) σ) : CS1 c.toCx r (.builtin "max") [.int a, .int b] σ Q E t := by
  obtain ⟨r, rfl⟩ : ∃ k, r = k + 1 := ⟨r - 1, by lia⟩
  exact max_spec q
theorem min_s {a b : Int} (hr : 1 ≤ r) (q : Q (.int (if b < a then b else a)) σ) : CS1 c.toCx r (.builtin "min") [.int a, .int b] σ Q E t := by
  obtain ⟨r, rfl⟩ : ∃ k, r = k + 1 := ⟨r - 1, by lia⟩
  exact min_spec q
theorem mask_s {n : Int} (w : Nat) (hr : 1 ≤ r) (hn : n = w) (hw : w ≤ 60) (q : Q (.int (mk w)) σ) : CS1 c.toCx r (.ref A.f_mask) [.int n] σ Q E t := by
  subst hn
  refine cal_mask hr ?_
  walk_at "st"
  refine ⟨⟨by decide, by lia, by lia⟩, ?_⟩
  have e : (1 : Int) * 2 ^ (w : Int).toNat - 1 = (mk w : Int) := by
    have := Nat.two_pow_pos w
    unfold mk
    rw [Int.toNat_natCast, Int.one_mul, Int.ofNat_sub this]; simp
  rw [e]; exact q
theorem gen_all {w : Nat} : Ok (gen w fun _ => 3) := gen_ok fun _ _ => by decide
theorem all_x_s {n : Int} (w : Nat) (hr : 2 ≤ r) (hn : n = w) (hw : w ≤ 60) (q : Q (V (gen w fun _ => 3)) σ) : CS1 c.toCx r (.ref A.f_all_x) [.int n] σ Q E t := by
  subst hn
  refine cal_all_x (by walk_at "om") ?_
  walk_at "st"
  refine mask_s w (by walk_at "om") rfl hw ?_
  walk_at "st"
  rw [V_of (cs := gen w fun _ => 3) gen_all (by rw [gen_len]) (fun i => ?_) (fun i => ?_)]
  · exact q
  · rw [mk_bit, gen_at]; split <;> simp [*]
  · rw [mk_bit, gen_at]; split <;> simp [*]
noncomputable def sliceC (cs : List Nat) (lo : Int) (w : Nat) : List Nat := gen w fun j => if 0 ≤ lo + j ∧ lo + j < cs.length then at0 cs (lo + j).toNat else 3
theorem sliceC_ok {cs : List Nat} (h : Ok cs) (lo : Int) (w : Nat) : Ok (sliceC cs lo w) := gen_ok fun j _ => by
  split
  · exact at0_lt h _
  · decide
theorem slice_vec_s {cs : List Nat} {lo n : Int} (w : Nat) (hr : 3 ≤ r) (h : Ok cs) (hl : cs.length ≤ 20) (hw : w ≤ 20) (hn : n = w) (hlo : -100 ≤ lo ∧ lo ≤ 100) (q : Q (V (sliceC cs lo w)) σ) :
    CS1 c.toCx r (.ref A.f_slice_vec) [V cs, .int lo, .int n] σ Q E t := by
  subst hn
  refine cal_slice_vec (by walk_at "om") ?_
  unfold V
  walk_at "st"
  refine max_s (by walk_at "om") ?_
  walk_at "st"
  refine min_s (by walk_at "om") ?_
  rw [show (if 0 > lo then (0 : Int) else lo) = (lo.toNat : Int) by split <;> lia]
  generalize hL : (if (cs.length : Int) < lo + w then (cs.length : Int) else lo + w) = L
  walk_at "st"
  by_cases hc : L ≤ (lo.toNat : Int)
  · rw [if_pos (decide_eq_true hc)]
    walk_at "st"
    refine all_x_s w (by walk_at "om") rfl (by walk_at "om") ?_
    have : gen w (fun _ => 3) = sliceC cs lo w := by
      refine codes_ext (by simp [sliceC, gen_len]) fun i hi => ?_
      rw [gen_len] at hi
      unfold sliceC
      rw [gen_at, gen_at, if_pos hi, if_pos hi, if_neg (no_cut hL hc hi)]
    rw [this]; exact q
  · rw [if_neg (by simpa using hc)]
    walk_at "mini"
    walk_at "st"
    obtain ⟨f, s, k, hf, hs, hk, e, h0, h1, h2, h3, s100⟩ := cut_ar hl hlo.1 hL hc
    have f20 := Nat.le_trans (Nat.le_of_add_right_le h1) hl
    have hk20 := Nat.le_trans (Nat.le_trans (Nat.le_add_left k f) h1) hl
    have ms := mil s100
    refine mask_s k (by walk_at "om") hk (by walk_at "om") ?_
    walk_at "st"
    rw [hs, hf]
    walk_at "st"
    refine mask_s w (by walk_at "om") rfl (by walk_at "om") ?_
    walk_at "mini"
    refine ⟨⟨fits (mk_lt (by walk_at "om")), ms.1, ms.2⟩, ?_⟩
    walk_at "st"
    have hkm := @mk_lt k (by walk_at "om")
    simp only [shr_c, bAnd, shl_c, bXor]
    refine ⟨Int.natCast_nonneg f, ⟨fits (Nat.lt_of_le_of_lt Nat.and_le_right hkm), ms.1, ms.2⟩, ?_⟩
    walk_at "st"
    simp only [shr_c, bAnd, shl_c, bXor]
    refine ⟨Int.natCast_nonneg f, ⟨fits (Nat.lt_of_le_of_lt Nat.and_le_right hkm), ms.1, ms.2⟩, ?_⟩
    walk_at "st"
    simp only [bOr]
    have hbit : ∀ (a i : Nat), ((a >>> f &&& mk k) <<< s ||| (mk w ^^^ mk k <<< s)).testBit i = if i < w then (if s ≤ i ∧ i - s < k then a.testBit (f + (i - s)) else true) else (decide (s ≤ i ∧ i - s < k) && (a.testBit (f + (i - s)) || true)) := fun a i => by
      simp only [Nat.testBit_or, Nat.testBit_xor, Nat.testBit_shiftLeft, Nat.testBit_and, Nat.testBit_shiftRight, mk_bit]
      by_cases h1 : s ≤ i <;> by_cases h2 : i - s < k <;> by_cases h3 : i < w <;> simp [h1, h2, h3]
    rw [V_of (cs := sliceC cs lo w) (sliceC_ok h lo w) (by simp [sliceC, gen_len]) (fun i => ?_) (fun i => ?_)]
    · exact q
    · rw [hbit]; unfold sliceC; rw [gen_at]
      by_cases hi : i < w
      · rw [if_pos hi, if_pos hi]
        by_cases hj : s ≤ i ∧ i - s < k
        · rw [if_pos hj, if_pos ((win e h0 h1 h3 hi).mp hj), lo_bit, win_at e hj.1]
        · rw [if_neg hj, if_neg (fun z => hj ((win e h0 h1 h3 hi).mpr z))]; rfl
      · rw [if_neg hi, if_neg hi, decide_eq_false fun z => hi (win_in h2 z)]; rfl
    · rw [hbit]; unfold sliceC; rw [gen_at]
      by_cases hi : i < w
      · rw [if_pos hi, if_pos hi]
        by_cases hj : s ≤ i ∧ i - s < k
        · rw [if_pos hj, if_pos ((win e h0 h1 h3 hi).mp hj), hi_bit _ _ h, win_at e hj.1]
        · rw [if_neg hj, if_neg (fun z => hj ((win e h0 h1 h3 hi).mpr z))]; rfl
      · rw [if_neg hi, if_neg hi, decide_eq_false fun z => hi (win_in h2 z)]; rfl
end
theorem zero_iff {m : Nat} : m = 0 ↔ ∀ i, m.testBit i = false := by
  constructor
  · rintro rfl i; simp
  · intro h; exact Nat.eq_of_testBit_eq fun i => by rw [h i]; simp
noncomputable def knownC (cs : List Nat) : Bool := cs.all (· < 2)
theorem at0_mem {cs : List Nat} {i : Nat} (h : i < cs.length) : at0 cs i ∈ cs := by
  unfold at0; rw [List.getElem?_eq_getElem h]; exact List.getElem_mem h
theorem mem_at0 {cs : List Nat} {c : Nat} (h : c ∈ cs) : ∃ i, i < cs.length ∧ at0 cs i = c := by
  obtain ⟨i, hi, e⟩ := List.getElem_of_mem h
  exact ⟨i, hi, by unfold at0; rw [List.getElem?_eq_getElem hi, e]; rfl⟩
theorem known_iff {cs : List Nat} (h : Ok cs) : hi2 cs = 0 ↔ knownC cs = true := by
  rw [zero_iff]
  unfold knownC
  rw [List.all_eq_true]
  constructor
  · intro f c hc
    obtain ⟨i, _, e⟩ := mem_at0 hc
    have := f i
    rw [hi_bit _ _ h, e] at this
    simp at this ⊢; lia
  · intro f i
    rw [hi_bit _ _ h]
    by_cases hi : i < cs.length
    · have := f _ (at0_mem hi); simp at this ⊢; lia
    · rw [at0_ge (by walk_at "om")]; rfl
section
variable {c : CX} {r : Nat} {σ : Hp} {Q E : MV → Hp → Prop} {t : Tk Q E}
theorem bit1 (m i : Nat) : Builtin.bitAnd ((m : Int).fdiv (2 ^ (i : Int).toNat)) 1 = ((if m.testBit i then 1 else 0 : Nat) : Int) := by
  rw [shr_c, show (1 : Int) = ((1 : Nat) : Int) from rfl, bAnd]
  congr 1
  rw [Nat.and_one_is_mod, Nat.shiftRight_eq_div_pow]
  have : m.testBit i = decide (m / 2 ^ i % 2 = 1) := by rw [← Nat.zero_add i, ← Nat.testBit_div_two_pow, Nat.testBit_zero]; simp
  rw [this]
  rcases Nat.mod_two_eq_zero_or_one (m / 2 ^ i) with e | e <;> simp [e]
theorem code_s {cs : List Nat} {n : Int} (i : Nat) (hr : 1 ≤ r) (h : Ok cs) (hn : n = i) (q : Q (.int (at0 cs i)) σ) : CS1 c.toCx r (.ref A.f_code) [V cs, .int n] σ Q E t := by
  subst hn
  refine cal_code (by walk_at "om") ?_
  unfold V
  walk_at "st"
  rw [bit1, bit1, lo_bit, hi_bit _ _ h]
  have := at0_lt h i
  refine ⟨by lia, by lia, ⟨by decide, ?_⟩, ?_⟩
  · split <;> decide
  · have e : ((if decide (at0 cs i % 2 = 1) = true then 1 else 0 : Nat) : Int) + 2 * ((if decide (2 ≤ at0 cs i) = true then 1 else 0 : Nat) : Int) = (at0 cs i : Int) := by
      by_cases h1 : at0 cs i % 2 = 1 <;> by_cases h2 : 2 ≤ at0 cs i <;> simp [h1, h2] <;> lia
    rw [e]; exact q
noncomputable def bitsC (w : Nat) (n : Int) : List Nat := gen w fun i => if (n % (2 ^ w : Nat)).toNat.testBit i then 1 else 0
theorem bitsC_ok {w : Nat} {n : Int} : Ok (bitsC w n) := gen_ok fun i _ => by split <;> decide
theorem bitsC_lo {w : Nat} {n : Int} : n % (2 ^ w : Nat) = (lo2 (bitsC w n) : Int) := by
  have hp : 0 < 2 ^ w := Nat.two_pow_pos w
  have h0 := Int.emod_nonneg n (show ((2 ^ w : Nat) : Int) ≠ 0 by lia)
  have h1 := Int.emod_lt_of_pos n (show 0 < ((2 ^ w : Nat) : Int) by lia)
  obtain ⟨m, hm⟩ := Int.eq_ofNat_of_zero_le h0
  rw [hm]
  have hlt : m < 2 ^ w := by lia
  congr 1
  refine Nat.eq_of_testBit_eq fun i => ?_
  rw [lo_bit]; unfold bitsC; rw [gen_at, hm]
  by_cases hi : i < w
  · rw [if_pos hi]; cases q : m.testBit i <;> simp [q]
  · rw [if_neg hi, Nat.testBit_lt_two_pow (Nat.lt_of_lt_of_le hlt (Nat.pow_le_pow_right (by decide) (by walk_at "om")))]; rfl
theorem bitsC_hi {w : Nat} {n : Int} : hi2 (bitsC w n) = 0 := by
  rw [known_iff bitsC_ok]; unfold knownC bitsC gen
  simp only [List.all_map, List.all_eq_true]; intro i _; simp; split <;> decide
theorem bitsC_len {w : Nat} {n : Int} : (bitsC w n).length = w := gen_len ..
theorem from_int_s {n m : Int} (w : Nat) (hr : 2 ≤ r) (hn : n = w) (hw : w ≤ 60) (q : Q (V (bitsC w m)) σ) : CS1 c.toCx r (.ref A.f_from_int) [.int n, .int m] σ Q E t := by
  subst hn
  refine cal_from_int (by walk_at "om") ?_
  walk_at "st"
  refine mask_s w (by walk_at "om") rfl hw ?_
  walk_at "mini"
  unfold mk
  rw [bAndMask, bitsC_lo]
  have e : V (bitsC w m) = .tup [.int w, .int (lo2 (bitsC w m)), .int 0] := by unfold V; rw [bitsC_len, bitsC_hi]; rfl
  rw [e] at q; exact q
theorem is_known_s {cs : List Nat} (hr : 1 ≤ r) (h : Ok cs) (q : Q (.bool (knownC cs)) σ) : CS1 c.toCx r (.ref A.f_is_known) [V cs] σ Q E t := by
  refine cal_is_known (by walk_at "om") ?_
  unfold V
  walk_at "st"
  have e : decide ((hi2 cs : Int) = 0) = knownC cs := by
    have := known_iff h
    cases k : knownC cs with
    | true => rw [decide_eq_true]; have := this.mpr k; lia
    | false => rw [decide_eq_false]; intro z; have := this.mp (by walk_at "om"); rw [k] at this; cases this
  rw [e]; exact q
noncomputable def addC (u v : List Nat) : List Nat := if knownC u && knownC v then bitsC u.length (lo2 u + lo2 v) else gen u.length fun _ => 3
theorem add_s {u v : List Nat} (hr : 4 ≤ r) (hu : Ok u) (hv : Ok v) (hl : u.length ≤ 20) (q : Q (V (addC u v)) σ) : CS1 c.toCx r (.ref A.f_add) [V u, V v] σ Q E t := by
  refine cal_add (by walk_at "om") ?_
  walk_at "st"
  have no : ∀ b : Bool, (b = false → Q (V (gen u.length fun _ => 3)) σ) → b = false → swps Tb (CSf c.toCx) (r - 1) M.add_1_0 [some (V u), some (V v)] σ (seqQ (fun l σ1 => swps Tb (CSf c.toCx) (r - 1) M.add_2_1 l σ1 (retQ Q) fun x _ σ1 => E x σ1) (retQ Q)) (fun x _ σ1 => E x σ1) := fun b k hb => by
    unfold V
    walk_at "st"
    refine all_x_s u.length (by walk_at "om") rfl (by walk_at "om") ?_
    walk_at "mini"
    exact k hb
  refine is_known_s (by walk_at "om") hu ?_
  walk_at "mini"
  cases ku : knownC u with
  | false =>
    walk_at "mini"
    exact no false (fun _ => by unfold addC at q; rw [ku] at q; exact q) rfl
  | true =>
    walk_at "mini"
    refine is_known_s (by walk_at "om") hv ?_
    walk_at "mini"
    cases kv : knownC v with
    | false =>
      walk_at "mini"
      exact no false (fun _ => by unfold addC at q; rw [ku, kv] at q; exact q) rfl
    | true =>
      walk_at "mini"
      unfold V
      walk_at "st"
      refine from_int_s u.length (by walk_at "om") rfl (by walk_at "om") ?_
      walk_at "mini"
      unfold addC at q; rw [ku, kv] at q; exact q
theorem V_one {a : Nat} (h : a < 4) : V [a] = .tup [.int 1, .int (a % 2 : Nat), .int (a / 2 : Nat)] := by
  simp [V, lo2, hi2]
theorem one_bit_s {n : Int} (a : Nat) (hr : 1 ≤ r) (hn : n = a) (h : a < 4) (q : Q (V [a]) σ) : CS1 c.toCx r (.ref A.f_one_bit) [.int n] σ Q E t := by
  subst hn
  refine cal_one_bit (by walk_at "om") ?_
  walk_at "st"
  refine ⟨by decide, ?_⟩
  rw [V_one h] at q
  have e1 : Builtin.bitAnd (a : Int) 1 = ((a % 2 : Nat) : Int) := by rw [show (1 : Int) = ((1 : Nat) : Int) from rfl, bAnd, Nat.and_one_is_mod]
  have e2 : (a : Int).fdiv (2 ^ (1 : Int).toNat) = ((a / 2 : Nat) : Int) := by rw [show (1 : Int).toNat = 1 from rfl, Int.fdiv_eq_ediv_of_nonneg _ (by decide)]; simp
  rw [e1, e2]; exact q
noncomputable def truthC (cs : List Nat) : Nat := if cs.any (· == 1) then 1 else if cs.all (· == 0) then 0 else 3
theorem truth_s {cs : List Nat} (hr : 2 ≤ r) (h : Ok cs) (hl : cs.length ≤ 20) (q : Q (.int (truthC cs)) σ) : CS1 c.toCx r (.ref A.f_truth) [V cs] σ Q E t := by
  refine cal_truth (by walk_at "om") ?_
  unfold V
  walk_at "st"
  refine mask_s cs.length (by walk_at "om") rfl (by walk_at "om") ?_
  walk_at "mini"
  simp only [bXor, bAnd]
  have e1 : (lo2 cs &&& (hi2 cs ^^^ mk cs.length)) = 0 ↔ cs.any (· == 1) = false := by
    rw [zero_iff, List.any_eq_false]
    constructor
    · intro f x hx
      obtain ⟨i, hi, e⟩ := mem_at0 hx
      have := f i
      rw [Nat.testBit_and, Nat.testBit_xor, lo_bit, hi_bit _ _ h, mk_bit, e] at this
      intro z
      simp at z
      subst z
      simp [hi] at this
    · intro f i
      rw [Nat.testBit_and, Nat.testBit_xor, lo_bit, hi_bit _ _ h, mk_bit]
      by_cases hi : i < cs.length
      · have := f _ (at0_mem hi)
        have := at0_lt h i
        simp [hi] at *; lia
      · rw [at0_ge (by walk_at "om")]; simp
  have e2 : lo2 cs = 0 ∧ hi2 cs = 0 ↔ cs.all (· == 0) = true := by
    rw [zero_iff, zero_iff, List.all_eq_true]
    constructor
    · rintro ⟨f, g⟩ x hx
      obtain ⟨i, hi, e⟩ := mem_at0 hx
      have a := f i; have b := g i
      rw [lo_bit, e] at a; rw [hi_bit _ _ h, e] at b
      simp at a b ⊢; lia
    · intro f
      have k : ∀ i, at0 cs i = 0 := fun i => by
        by_cases hi : i < cs.length
        · simpa using f _ (at0_mem hi)
        · exact at0_ge (by walk_at "om")
      exact ⟨fun i => by rw [lo_bit, k]; rfl, fun i => by rw [hi_bit _ _ h, k]; rfl⟩
  unfold truthC at q
  cases a : cs.any (· == 1) with
  | true =>
    rw [a] at q
    rw [decide_eq_false (fun z => by have := e1.mp (by walk_at "om"); rw [a] at this; cases this)]
    walk_at "mini"
    walk_at "st"
    exact q
  | false =>
    rw [a] at q
    rw [decide_eq_true (by have := e1.mpr a; lia)]
    walk_at "mini"
    walk_at "st"
    cases b : cs.all (· == 0) with
    | true =>
      rw [b] at q
      obtain ⟨f, g⟩ := e2.mpr b
      rw [decide_eq_true (by lia : (lo2 cs : Int) = 0), decide_eq_true (by lia : (hi2 cs : Int) = 0)]
      walk_at "mini"
      walk_at "st"
      exact q
    | false =>
      rw [b] at q
      have ng : ¬ (lo2 cs = 0 ∧ hi2 cs = 0) := fun z => by rw [e2.mp z] at b; cases b
      by_cases f : lo2 cs = 0
      · have g : ¬ hi2 cs = 0 := fun z => ng ⟨f, z⟩
        rw [decide_eq_true (by lia : (lo2 cs : Int) = 0), decide_eq_false (by lia : ¬ (hi2 cs : Int) = 0)]
        walk_at "mini"
        walk_at "st"
        exact q
      · rw [decide_eq_false (by lia : ¬ (lo2 cs : Int) = 0)]
        walk_at "mini"
        walk_at "st"
        exact q
end
theorem xor_k1 : ∀ x, x < 4 → ∀ y, y < 4 → ((decide (x % 2 = 1) ^^ decide (y % 2 = 1)) || (decide (2 ≤ x) || decide (2 ≤ y))) = decide ((if x < 2 ∧ y < 2 then (x + y) % 2 else 3) % 2 = 1) := by decide
theorem xor_k2 : ∀ x, x < 4 → ∀ y, y < 4 → (decide (2 ≤ x) || decide (2 ≤ y)) = decide (2 ≤ (if x < 2 ∧ y < 2 then (x + y) % 2 else 3)) := by decide
theorem same_k : ∀ x, x < 4 → ∀ y, y < 4 → ¬ (x < 2 ∧ y < 2 ∧ x ≠ y) → ((decide (x % 2 = 1) ^^ decide (y % 2 = 1)) && ((decide (2 ≤ x) || decide (2 ≤ y)) ^^ true)) = false := by decide
section
variable {c : CX} {r : Nat} {σ : Hp} {Q E : MV → Hp → Prop} {t : Tk Q E}
noncomputable def xorC (u v : List Nat) : List Nat := gen u.length fun i => if at0 u i < 2 ∧ at0 v i < 2 then (at0 u i + at0 v i) % 2 else 3
theorem bit_xor_s {u v : List Nat} (hr : 1 ≤ r) (hu : Ok u) (hv : Ok v) (hl : u.length = v.length) (q : Q (V (xorC u v)) σ) : CS1 c.toCx r (.ref A.f_bit_xor) [V u, V v] σ Q E t := by
  refine cal_bit_xor (by walk_at "om") ?_
  unfold V
  walk_at "sts"
  simp only [bXor, bOr]
  rw [V_of (cs := xorC u v) (gen_ok fun i _ => by split <;> lia) (by simp [xorC, gen_len]) (fun i => ?_) (fun i => ?_)]
  · exact q
  · unfold xorC
    rw [gen_at, Nat.testBit_or, Nat.testBit_or, Nat.testBit_xor, lo_bit, lo_bit, hi_bit _ _ hu, hi_bit _ _ hv]
    by_cases hi : i < u.length
    · rw [if_pos hi]
      exact xor_k1 _ (at0_lt hu i) _ (at0_lt hv i)
    · rw [if_neg hi, at0_ge (by walk_at "om"), at0_ge (by walk_at "om")]; rfl
  · unfold xorC
    rw [gen_at, Nat.testBit_or, hi_bit _ _ hu, hi_bit _ _ hv]
    by_cases hi : i < u.length
    · rw [if_pos hi]
      exact xor_k2 _ (at0_lt hu i) _ (at0_lt hv i)
    · rw [if_neg hi, at0_ge (by walk_at "om"), at0_ge (by walk_at "om")]; rfl
noncomputable def sameC (u v : List Nat) : Nat := if (List.range u.length).any (fun i => decide (at0 u i < 2 ∧ at0 v i < 2 ∧ at0 u i ≠ at0 v i)) then 0 else if knownC u && knownC v then 1 else 3
theorem sameC_lt {u v : List Nat} : sameC u v < 4 := by unfold sameC; split <;> (try split) <;> decide
theorem equal_s {u v : List Nat} (hr : 3 ≤ r) (hu : Ok u) (hv : Ok v) (hl : u.length = v.length) (hl20 : u.length ≤ 20) (q : Q (V [sameC u v]) σ) : CS1 c.toCx r (.ref A.f_equal) [V u, V v] σ Q E t := by
  refine cal_equal (by walk_at "om") ?_
  unfold V
  walk_at "sts"
  refine mask_s u.length (by walk_at "om") rfl (by walk_at "om") ?_
  walk_at "mini"
  simp only [bXor, bAnd, bOr]
  have e1 : ((lo2 u ^^^ lo2 v) &&& ((hi2 u ||| hi2 v) ^^^ mk u.length)) = 0 ↔ (List.range u.length).any (fun i => decide (at0 u i < 2 ∧ at0 v i < 2 ∧ at0 u i ≠ at0 v i)) = false := by
    rw [zero_iff, List.any_eq_false]
    constructor
    · intro f i hi
      have hi := List.mem_range.mp hi
      have := f i
      simp only [Nat.testBit_and, Nat.testBit_xor, Nat.testBit_or, lo_bit, hi_bit _ _ hu, hi_bit _ _ hv, mk_bit] at this
      simp only [decide_eq_true_eq]
      rintro ⟨h1, h2, h3⟩
      rcases (by lia : at0 u i = 0 ∨ at0 u i = 1) with e | e <;> rcases (by lia : at0 v i = 0 ∨ at0 v i = 1) with e' | e' <;> simp [e, e', hi] at this h3
    · intro f i
      simp only [Nat.testBit_and, Nat.testBit_xor, Nat.testBit_or, lo_bit, hi_bit _ _ hu, hi_bit _ _ hv, mk_bit]
      by_cases hi : i < u.length
      · have := f i (List.mem_range.mpr hi)
        simp only [decide_eq_true_eq] at this
        rw [decide_eq_true hi]
        exact same_k _ (at0_lt hu i) _ (at0_lt hv i) this
      · rw [at0_ge (by walk_at "om"), at0_ge (by walk_at "om")]; rfl
  have e2 : (hi2 u ||| hi2 v) = 0 ↔ (knownC u && knownC v) = true := by
    rw [Bool.and_eq_true, ← known_iff hu, ← known_iff hv]
    constructor
    · intro h
      rw [zero_iff] at h
      constructor <;> (rw [zero_iff]; intro i; have := h i; rw [Nat.testBit_or] at this; simp at this; first | exact this.1 | exact this.2)
    · rintro ⟨a, b⟩; rw [a, b]; rfl
  unfold sameC at q
  cases a : (List.range u.length).any (fun i => decide (at0 u i < 2 ∧ at0 v i < 2 ∧ at0 u i ≠ at0 v i)) with
  | true =>
    rw [a] at q
    rw [decide_eq_false (fun z => by have := e1.mp (by walk_at "om"); rw [a] at this; cases this)]
    walk_at "mini"
    walk_at "st"
    refine one_bit_s 0 (by walk_at "om") rfl (by decide) ?_
    walk_at "mini"
    exact q
  | false =>
    rw [a] at q
    rw [decide_eq_true (by have := e1.mpr a; lia)]
    walk_at "mini"
    walk_at "st"
    cases b : (knownC u && knownC v) with
    | true =>
      rw [b] at q
      rw [decide_eq_true (by have := e2.mpr b; lia)]
      walk_at "mini"
      refine one_bit_s 1 (by walk_at "om") rfl (by decide) ?_
      walk_at "mini"
      exact q
    | false =>
      rw [b] at q
      rw [decide_eq_false (fun z => by have := e2.mp (by walk_at "om"); rw [b] at this; cases this)]
      walk_at "mini"
      refine one_bit_s 3 (by walk_at "om") rfl (by decide) ?_
      walk_at "mini"
      exact q
noncomputable def putC (cs : List Nat) (lo : Int) (ps : List Nat) : List Nat := gen cs.length fun (i : Nat) => if lo ≤ i ∧ (i : Int) < lo + ps.length then at0 ps ((i : Int) - lo).toNat else at0 cs i
theorem putC_ok {cs ps : List Nat} (h : Ok cs) (hp : Ok ps) (lo : Int) : Ok (putC cs lo ps) := gen_ok fun j _ => by
  split
  · exact at0_lt hp _
  · exact at0_lt h _
theorem putC_len {cs ps : List Nat} {lo : Int} : (putC cs lo ps).length = cs.length := gen_len ..
theorem win' {f s k n w : Nat} {lo : Int} (e : lo = (f : Int) - s) (h0 : f = 0 ∨ s = 0) (h1 : s + k ≤ w) (h3 : f + k = n ∨ s + k = w) {i : Nat} (hi : i < n) : (f ≤ i ∧ i - f < k) ↔ (lo ≤ (i : Int) ∧ (i : Int) < lo + w) := by subst e; lia
theorem no_cut' {lo L : Int} {n w i : Nat} (hL : (if (n : Int) < lo + w then (n : Int) else lo + w) = L) (hc : L ≤ (lo.toNat : Int)) (hi : i < n) : ¬ (lo ≤ (i : Int) ∧ (i : Int) < lo + w) := by
  by_cases h : (n : Int) < lo + w
  · rw [if_pos h] at hL; subst hL; lia
  · rw [if_neg h] at hL; subst hL; lia
theorem put_slice_s {cs ps : List Nat} {lo : Int} (hr : 3 ≤ r) (h : Ok cs) (hp : Ok ps) (hl : cs.length ≤ 20) (hw : ps.length ≤ 20) (hlo : -100 ≤ lo ∧ lo ≤ 100) (q : Q (V (putC cs lo ps)) σ) :
    CS1 c.toCx r (.ref A.f_put_slice) [V cs, .int lo, V ps] σ Q E t := by
  refine cal_put_slice (by walk_at "om") ?_
  unfold V
  walk_at "st"
  refine max_s (by walk_at "om") ?_
  walk_at "st"
  refine min_s (by walk_at "om") ?_
  rw [show (if 0 > lo then (0 : Int) else lo) = (lo.toNat : Int) by split <;> lia]
  generalize hL : (if (cs.length : Int) < lo + ps.length then (cs.length : Int) else lo + ps.length) = L
  walk_at "st"
  by_cases hc : L ≤ (lo.toNat : Int)
  · rw [decide_eq_true hc]
    walk_at "mini"
    walk_at "st"
    have : putC cs lo ps = cs := by
      refine codes_ext (by simp [putC, gen_len]) fun i hi => ?_
      rw [putC_len] at hi
      unfold putC
      rw [gen_at, if_pos hi, if_neg (no_cut' hL hc hi)]
    rw [this] at q; exact q
  · rw [decide_eq_false hc]
    walk_at "mini"
    walk_at "st"
    obtain ⟨f, s, k, hf, hs, hk, e, h0, h1, h2, h3, s100⟩ := cut_ar hl hlo.1 hL hc
    have f20 := Nat.le_trans (Nat.le_of_add_right_le h1) hl
    have hk20 := Nat.le_trans (Nat.le_trans (Nat.le_add_left k f) h1) hl
    have mf := mil (Nat.le_trans f20 (by decide))
    refine mask_s k (by walk_at "om") hk (by walk_at "om") ?_
    walk_at "st"
    rw [hs, hf]
    walk_at "st"
    refine mask_s cs.length (by walk_at "om") rfl (by walk_at "om") ?_
    walk_at "mini"
    have hkm := @mk_lt k (by walk_at "om")
    refine ⟨⟨fits hkm, mf.1, mf.2⟩, ?_⟩
    walk_at "st"
    simp only [shr_c, bAnd, shl_c, bXor]
    refine ⟨Int.natCast_nonneg s, ⟨fits (Nat.lt_of_le_of_lt Nat.and_le_right hkm), mf.1, mf.2⟩, ?_⟩
    walk_at "st"
    simp only [shr_c, bAnd, shl_c, bXor]
    refine ⟨Int.natCast_nonneg s, ⟨fits (Nat.lt_of_le_of_lt Nat.and_le_right hkm), mf.1, mf.2⟩, ?_⟩
    walk_at "st"
    simp only [bOr]
    have hbit : ∀ (x y i : Nat), ((x &&& (mk cs.length ^^^ mk k <<< f)) ||| ((y >>> s &&& mk k) <<< f)).testBit i = ((x.testBit i && (decide (i < cs.length) ^^ decide (f ≤ i ∧ i - f < k))) || (decide (f ≤ i ∧ i - f < k) && y.testBit (s + (i - f)))) := fun x y i => by
      simp only [Nat.testBit_or, Nat.testBit_xor, Nat.testBit_shiftLeft, Nat.testBit_and, Nat.testBit_shiftRight, mk_bit]
      by_cases h1 : f ≤ i <;> by_cases h2 : i - f < k <;> by_cases h3 : i < cs.length <;> simp [h1, h2, h3]
    have hj := fun {i : Nat} => win' (i := i) e h0 h2 h3
    have hx := fun {i : Nat} (hi : f ≤ i) => (win_at (f := s) (s := f) (lo := -lo) (i := i) (by rw [e, Int.neg_sub]) hi).trans (congrArg Int.toNat (by rw [Int.add_comm, ← Int.sub_eq_add_neg]))
    rw [V_of (cs := putC cs lo ps) (putC_ok h hp lo) putC_len.symm (fun i => ?_) (fun i => ?_)]
    · exact q
    · rw [hbit]; unfold putC; rw [gen_at]
      by_cases hi : i < cs.length
      · rw [if_pos hi]
        by_cases hc : f ≤ i ∧ i - f < k
        · rw [if_pos ((hj hi).mp hc), decide_eq_true hc, decide_eq_true hi, lo_bit, lo_bit, hx hc.1]; simp
        · rw [if_neg (fun z => hc ((hj hi).mpr z)), decide_eq_false hc, decide_eq_true hi, lo_bit]; simp
      · rw [if_neg hi, decide_eq_false (fun z => hi (win_in h1 z)), decide_eq_false hi]; simp
    · rw [hbit]; unfold putC; rw [gen_at]
      by_cases hi : i < cs.length
      · rw [if_pos hi]
        by_cases hc : f ≤ i ∧ i - f < k
        · rw [if_pos ((hj hi).mp hc), decide_eq_true hc, decide_eq_true hi, hi_bit _ _ h, hi_bit _ _ hp, hx hc.1]; simp
        · rw [if_neg (fun z => hc ((hj hi).mpr z)), decide_eq_false hc, decide_eq_true hi, hi_bit _ _ h]; simp
      · rw [if_neg hi, decide_eq_false (fun z => hi (win_in h1 z)), decide_eq_false hi]; simp
theorem putC_all {cs ps : List Nat} (hl : cs.length = ps.length) : putC cs 0 ps = ps := by
  refine codes_ext (by rw [putC_len, hl]) fun i hi => ?_
  rw [putC_len] at hi
  unfold putC
  rw [gen_at, if_pos hi, if_pos (by walk_at "om")]; congr 1; try lia
theorem sliceC_all {cs : List Nat} {w : Nat} (hl : cs.length = w) : sliceC cs 0 w = cs := by
  refine codes_ext (by simp [sliceC, gen_len, hl]) fun i hi => ?_
  unfold sliceC at hi ⊢
  rw [gen_len] at hi
  rw [gen_at, if_pos hi, if_pos (by walk_at "om")]; congr 1; try lia
noncomputable def extC (cs : List Nat) (w : Nat) (sg : Bool) : List Nat := gen w fun i => if i < cs.length then at0 cs i else if sg then at0 cs (cs.length - 1) else 0
theorem extC_ok {cs : List Nat} (h : Ok cs) {w : Nat} {sg : Bool} : Ok (extC cs w sg) := gen_ok fun j _ => by
  split
  · exact at0_lt h _
  · split
    · exact at0_lt h _
    · decide
theorem extC_len {cs : List Nat} {w : Nat} {sg : Bool} : (extC cs w sg).length = w := gen_len ..
theorem extend_s {cs : List Nat} {n : Int} (w : Nat) (sg : Bool) (hr : 3 ≤ r) (h : Ok cs) (h0 : 0 < cs.length) (hl : cs.length ≤ 20) (hn : n = w) (hw : w ≤ 20) (q : Q (V (extC cs w sg)) σ) :
    CS1 c.toCx r (.ref A.f_extend) [V cs, .int n, .bool sg] σ Q E t := by
  subst hn
  refine cal_extend (by walk_at "om") ?_
  unfold V
  walk_at "st"
  by_cases hc : (w : Int) ≤ cs.length
  · rw [decide_eq_true hc]
    walk_at "mini"
    walk_at "st"
    refine cal_vec (by walk_at "om") ?_
    walk_at "st"
    refine mask_s w (by walk_at "om") rfl (by walk_at "om") ?_
    walk_at "st"
    simp only [bAnd]
    rw [V_of (cs := extC cs w sg) (extC_ok h) extC_len.symm (fun i => ?_) (fun i => ?_)]
    · exact q
    · unfold extC; rw [gen_at, Nat.testBit_and, lo_bit, mk_bit]
      by_cases hi : i < w
      · rw [if_pos hi, if_pos (by walk_at "om")]; simp [hi]
      · rw [if_neg hi]; simp [hi]
    · unfold extC; rw [gen_at, Nat.testBit_and, hi_bit _ _ h, mk_bit]
      by_cases hi : i < w
      · rw [if_pos hi, if_pos (by walk_at "om")]; simp [hi]
      · rw [if_neg hi]; simp [hi]
  · rw [decide_eq_false hc]
    walk_at "mini"
    walk_at "st"
    cases sg with
    | false =>
      walk_at "mini"
      walk_at "st"
      rw [V_of (cs := extC cs w false) (extC_ok h) extC_len.symm (fun i => ?_) (fun i => ?_)]
      · exact q
      · unfold extC; rw [gen_at, lo_bit]
        by_cases hi : i < cs.length
        · rw [if_pos (by walk_at "om"), if_pos hi]
        · rw [at0_ge (by walk_at "om")]; simp [hi]
      · unfold extC; rw [gen_at, hi_bit _ _ h]
        by_cases hi : i < cs.length
        · rw [if_pos (by walk_at "om"), if_pos hi]
        · rw [at0_ge (by walk_at "om")]; simp [hi]
    | true =>
      walk_at "mini"
      walk_at "st"
      refine mask_s w (by walk_at "om") rfl (by walk_at "om") ?_
      walk_at "mini"
      refine mask_s cs.length (by walk_at "om") rfl (by walk_at "om") ?_
      walk_at "st"
      refine code_s (cs := cs) (cs.length - 1) (by walk_at "om") h (by walk_at "om") ?_
      simp only [bXor]
      have ht := at0_lt h (cs.length - 1)
      generalize hT : at0 cs (cs.length - 1) = T at ht
      have hfill : ∀ i, (mk w ^^^ mk cs.length).testBit i = decide (cs.length ≤ i ∧ i < w) := fun i => by
        rw [Nat.testBit_xor, mk_bit, mk_bit]
        by_cases h1 : i < w <;> by_cases h2 : i < cs.length <;> simp [h1, h2] <;> lia
      have g1 : decide (Builtin.bitAnd (T : Int) 1 ≠ 0) = decide (T % 2 = 1) := by
        rw [show (1 : Int) = ((1 : Nat) : Int) from rfl, bAnd]
        rcases (by lia : T = 0 ∨ T = 1 ∨ T = 2 ∨ T = 3) with rfl | rfl | rfl | rfl <;> decide
      have g2 : decide (Builtin.bitAnd (T : Int) 2 ≠ 0) = decide (2 ≤ T) := by
        rw [show (2 : Int) = ((2 : Nat) : Int) from rfl, bAnd]
        rcases (by lia : T = 0 ∨ T = 1 ∨ T = 2 ∨ T = 3) with rfl | rfl | rfl | rfl <;> decide
      have key : ∀ (p : Nat) (d : Bool) (k : Nat → Bool), (∀ i, p.testBit i = k (at0 cs i)) → k 0 = false → k T = d →
          ∀ i, (p ||| (if d = true then mk w ^^^ mk cs.length else 0)).testBit i = k (at0 (extC cs w true) i) := fun p d k hp k0 kT i => by
        have hf : (if d = true then mk w ^^^ mk cs.length else 0).testBit i = (d && decide (cs.length ≤ i ∧ i < w)) := by
          cases d
          · simp
          · rw [if_pos rfl, hfill]; rfl
        unfold extC
        rw [gen_at, Nat.testBit_or, hp, hf]
        by_cases h1 : i < cs.length
        · rw [if_pos (by walk_at "om"), if_pos h1, decide_eq_false (by walk_at "om")]; simp
        · rw [at0_ge (by walk_at "om"), k0]
          by_cases h2 : i < w
          · rw [if_pos h2, if_neg h1, if_pos rfl, hT, kT, decide_eq_true (by walk_at "om")]; simp
          · rw [if_neg h2, k0, decide_eq_false (by walk_at "om")]; simp
      have fin : MV.tup [.int w, .int (lo2 cs ||| (if decide (T % 2 = 1) = true then mk w ^^^ mk cs.length else 0) : Nat), .int (hi2 cs ||| (if decide (2 ≤ T) = true then mk w ^^^ mk cs.length else 0) : Nat)] = V (extC cs w true) := by
        refine V_of (extC_ok h) extC_len.symm (fun i => ?_) (fun i => ?_)
        · exact key (lo2 cs) _ (fun x => decide (x % 2 = 1)) (lo_bit cs) (by decide) rfl i
        · exact key (hi2 cs) _ (fun x => decide (2 ≤ x)) (fun i => hi_bit cs i h) (by decide) rfl i
      rw [← fin] at q
      have z0 : ∀ m : Nat, Builtin.bitOr (m : Int) 0 = ((m ||| 0 : Nat) : Int) := fun m => bOr m 0
      walk_at "st"
      rw [g1]
      cases d1 : decide (T % 2 = 1) <;> rw [d1] at q <;> walk_at "mini" <;> simp only [bOr, z0] <;> walk_at "st" <;> rw [g2] <;> cases d2 : decide (2 ≤ T) <;> rw [d2] at q <;> walk_at "mini" <;> simp only [bOr, z0] <;> walk_at "st" <;> exact q
end
local macro_rules | `(tactic| walk_at "at") => `(tactic| (refine attr_i (by assumption) (by rfl) (by rfl) ?_; walk_at "mini"))
section
variable {c : CX} {r : Nat} {σ : Hp} {Q E : MV → Hp → Prop} {t : Tk Q E}
theorem arith_none {op : Nat} {u v s : MV} (hr : 1 ≤ r) (h : op = 16 ∨ op = 20 ∨ op = 21 ∨ op = 24 ∨ op = 26) (q : Q .none σ) : CS1 c.toCx r (.ref A.f_arithmetic) [.sym op, u, v, s] σ Q E t := by
  rcases h with rfl | rfl | rfl | rfl | rfl <;> (refine cal_arithmetic (by walk_at "om") ?_; walk_at "sts"; exact q)
theorem comp_none {op : Nat} {u v s : MV} (hr : 1 ≤ r) (h : op = 24 ∨ op = 26) (q : Q .none σ) : CS1 c.toCx r (.ref A.f_comparison) [.sym op, u, v, s] σ Q E t := by
  rcases h with rfl | rfl <;> (refine cal_comparison (by walk_at "om") ?_; walk_at "sts"; exact q)
theorem binary_add {u v : List Nat} {s : MV} (hr : 6 ≤ r) (hu : Ok u) (hv : Ok v) (hl : u.length ≤ 20) (q : Q (V (addC u v)) σ) : CS1 c.toCx r (.ref A.f_binary) [.sym 7, V u, V v, s] σ Q E t := by
  refine cal_binary (by walk_at "om") ?_
  walk_at "st"
  refine cal_arithmetic (by walk_at "om") ?_
  walk_at "sts"
  refine add_s (by walk_at "om") hu hv hl ?_
  unfold V at q ⊢
  walk_at "mini"
  walk_at "sts"
  exact q
theorem binary_eq {u v : List Nat} {s : MV} (hr : 6 ≤ r) (hu : Ok u) (hv : Ok v) (hl : u.length = v.length) (hl2 : u.length ≤ 20) (q : Q (V [sameC u v]) σ) : CS1 c.toCx r (.ref A.f_binary) [.sym 20, V u, V v, s] σ Q E t := by
  refine cal_binary (by walk_at "om") ?_
  walk_at "st"
  refine arith_none (by walk_at "om") (by walk_at "om") ?_
  walk_at "st"
  walk_at "st"
  refine cal_comparison (by walk_at "om") ?_
  walk_at "sts"
  refine equal_s (by walk_at "om") hu hv hl hl2 ?_
  unfold V at q ⊢
  walk_at "mini"
  walk_at "sts"
  exact q
theorem binary_xor {u v : List Nat} {s : MV} (hr : 6 ≤ r) (hu : Ok u) (hv : Ok v) (hl : u.length = v.length) (q : Q (V (xorC u v)) σ) : CS1 c.toCx r (.ref A.f_binary) [.sym 26, V u, V v, s] σ Q E t := by
  refine cal_binary (by walk_at "om") ?_
  walk_at "st"
  refine arith_none (by walk_at "om") (by walk_at "om") ?_
  walk_at "st"
  walk_at "st"
  refine comp_none (by walk_at "om") (by walk_at "om") ?_
  walk_at "st"
  walk_at "st"
  refine cal_bitwise (by walk_at "om") ?_
  walk_at "sts"
  refine bit_xor_s (by walk_at "om") hu hv hl ?_
  unfold V at q ⊢
  walk_at "mini"
  walk_at "sts"
  exact q
/-! reading an expression -/
theorem ev_const {w a b x : MV} (hr : 1 ≤ r) (q : Q (.tup [w, a, b]) σ) : CS1 c.toCx r (.ref A.f_evaluate) [.tup [.sym 31, w, a, b], x] σ Q E t := by
  refine cal_evaluate (by walk_at "om") ?_
  walk_at "sts"
  exact q
theorem ev_local {w v : MV} {i : Nat} {cx fr : Addr} {fs : List (Nat × MV)} {xs : List MV} (hr : 1 ≤ r) (h1 : σ cx = some (.inst A.c_FunctionContext fs)) (h2 : fs.lookup 35 = some (.ref fr)) (h3 : σ fr = some (.list xs)) (h4 : xs[i]? = some v) (hi : i ≤ 100)
    (q : Q v σ) : CS1 c.toCx r (.ref A.f_evaluate) [.tup [.sym 34, w, .int i], .ref cx] σ Q E t := by
  refine cal_evaluate (by walk_at "om") ?_
  walk_at "sts"
  refine attr_i h1 (by rfl) h2 ?_
  walk_at "mini"
  exact item_l i h3 rfl (by walk_at "om") h4 q
theorem ev_bin {w op e1 e2 s x : MV} (hr : 1 ≤ r) (q : CS1 c.toCx (r - 1) (.ref A.f_evaluate) [e1, x] σ (fun v1 σ1 => CS1 c.toCx (r - 1) (.ref A.f_evaluate) [e2, x] σ1 (fun v2 σ2 => CS1 c.toCx (r - 1) (.ref A.f_binary) [op, v1, v2, s] σ2 Q E {}) E {}) E {}) :
    CS1 c.toCx r (.ref A.f_evaluate) [.tup [.sym 36, w, op, e1, e2, s], x] σ Q E t := by
  refine cal_evaluate (by walk_at "om") ?_
  walk_at "sts"
  exact q
/-! the store -/
theorem is_net_s {s : Addr} {fs : List (Nat × MV)} (hr : 2 ≤ r) (h : σ s = some (.inst A.c_Signal fs)) (hk : fs.lookup 4 = some (.sym 126)) (q : Q (.bool false) σ) : CS1 c.toCx r (.ref A.f_Signal_is_net) [.ref s] σ Q E t := by
  refine cal_Signal_is_net (by walk_at "om") ?_
  walk_at "st"
  refine attr_i h (by rfl) hk ?_
  walk_at "mini"
  refine cal_net_kinds (by walk_at "om") ?_
  walk_at "st"
  exact ⟨⟨rfl, rfl⟩, q⟩
theorem getd_s {a : Addr} {kvs : List (Int × MV)} {k : Int} (hs : σ a = some (.dI kvs)) (q : Q ((getI k kvs).getD .none) σ) : CS1 c.toCx r (.builtin "dict.get") [.ref a, .int k] σ Q E t := getd_spec hs q
theorem store_get_s {st dv sl s : Addr} {fs gs : List (Nat × MV)} {vals : List (Int × MV)} {sigs : List MV} {k w : Nat} (v : List Nat) (hr : 4 ≤ r) (h1 : σ st = some (.inst A.c_Store fs)) (h2 : fs.lookup 52 = some (.ref dv)) (h3 : σ dv = some (.dI vals))
    (h4 : getI k vals = some (V v) ∨ (getI k vals = none ∧ v = gen w fun _ => 3)) (h5 : fs.lookup 48 = some (.ref sl)) (h6 : σ sl = some (.list sigs)) (h7 : sigs[k]? = some (.ref s)) (h8 : σ s = some (.inst A.c_Signal gs)) (h9 : gs.lookup 4 = some (.sym 126)) (h10 : gs.lookup 49 = some (.int w)) (h11 : gs.lookup 55 = none) (hw : w ≤ 20) (hk : k ≤ 100)
    (q : Q (V v) σ) : CS1 c.toCx r (.ref A.f_Store_get) [.ref st, .int k] σ Q E t := by
  refine cal_Store_get (by walk_at "om") ?_
  walk_at "st"
  refine attr_i h1 (by rfl) h2 ?_
  walk_at "mini"
  refine meth_get h3 ?_
  walk_at "mini"
  refine getd_s h3 ?_
  rcases h4 with h4 | ⟨h4, rfl⟩
  · rw [h4]
    unfold V at q ⊢
    walk_at "mini"
    simp only [Option.getD_some]
    walk_at "sts"
    exact q
  · rw [h4]
    walk_at "mini"
    simp only [Option.getD_none]
    walk_at "st"
    walk_at "st"
    refine attr_i h1 (by rfl) h5 ?_
    walk_at "mini"
    refine item_l k h6 rfl (by walk_at "om") h7 ?_
    walk_at "st"
    refine meth_i h8 (by rfl) h11 ?_
    walk_at "mini"
    refine is_net_s (by walk_at "om") h8 h9 ?_
    walk_at "mini"
    walk_at "st"
    refine attr_i h8 (by rfl) h10 ?_
    walk_at "mini"
    refine all_x_s w (by walk_at "om") rfl (by walk_at "om") ?_
    walk_at "mini"
    exact q
end
def Same (F : List Addr) (σ σ' : Hp) : Prop := ∀ a o, σ a = some o → a ∉ F → σ' a = some o
theorem Same.refl (F : List Addr) (σ : Hp) : Same F σ σ := fun _ _ h _ => h
theorem Same.trans {F : List Addr} {σ σ1 σ2 : Hp} (h : Same F σ σ1) (k : Same F σ1 σ2) : Same F σ σ2 := fun a o e n => k a o (h a o e n) n
theorem Same.mono {F G : List Addr} {σ σ1 : Hp} (h : Same F σ σ1) (s : ∀ a, a ∈ F → a ∈ G) : Same G σ σ1 := fun a o e n => h a o e fun z => n (s a z)
theorem Same.put {σ : Hp} {a : Addr} {o : MObj} : Same [a] σ (σ.put a o) := fun b o' e n => by rw [put_ne (fun z => n (by simp [z]))]; exact e
theorem Same.new {F : List Addr} {σ : Hp} {a : Addr} {o : MObj} (h : σ a = none) : Same F σ (σ.put a o) := fun b o' e _ => by rw [put_ne (fun z => by rw [z, h] at e; cases e)]; exact e
section
variable {c : CX} {r : Nat} {σ : Hp} {Q E : MV → Hp → Prop} {t : Tk Q E}
theorem locate_s {x : MV} {lo : Int} (hr : 1 ≤ r) (q : Q (.int lo) σ) : CS1 c.toCx r (.ref A.f_locate) [.tup [.sym 5, .int lo], x] σ Q E t := by
  refine cal_locate (by walk_at "om") ?_
  walk_at "sts"
  exact q
theorem holder_local {w v1 v2 x y hw : MV} {i : Nat} {cx fr : Addr} {fs : List (Nat × MV)} {xs : List MV} (hr : 1 ≤ r) (h1 : σ cx = some (.inst A.c_FunctionContext fs)) (h2 : fs.lookup 35 = some (.ref fr)) (h3 : σ fr = some (.list xs)) (h4 : xs[i]? = some (.tup [hw, v1, v2])) (hi : i ≤ 100)
    (q : Q hw σ) : CS1 c.toCx r (.ref A.f_holder_width) [.tup [.sym 34, w, .int i, x, y], .ref cx] σ Q E t := by
  refine cal_holder_width (by walk_at "om") ?_
  walk_at "sts"
  refine attr_i h1 (by rfl) h2 ?_
  walk_at "mini"
  refine item_l i h3 rfl (by walk_at "om") h4 ?_
  walk_at "mini"
  exact q
theorem holder_sig {w x y hw : MV} {k : Nat} {cx st sl s : Addr} {fs gs hs : List (Nat × MV)} {sigs : List MV} (hr : 1 ≤ r) (h1 : σ cx = some (.inst A.c_FunctionContext fs)) (h2 : fs.lookup 33 = some (.ref st)) (h3 : σ st = some (.inst A.c_Store gs)) (h4 : gs.lookup 48 = some (.ref sl))
    (h5 : σ sl = some (.list sigs)) (h6 : sigs[k]? = some (.ref s)) (h7 : σ s = some (.inst A.c_Signal hs)) (h8 : hs.lookup 49 = some hw) (hk : k ≤ 100) (q : Q hw σ) : CS1 c.toCx r (.ref A.f_holder_width) [.tup [.sym 32, w, .int k, x, y], .ref cx] σ Q E t := by
  refine cal_holder_width (by walk_at "om") ?_
  walk_at "sts"
  refine attr_i h1 (by rfl) h2 ?_
  walk_at "mini"
  refine attr_i h3 (by rfl) h4 ?_
  walk_at "mini"
  refine item_l k h5 rfl (by walk_at "om") h6 ?_
  walk_at "mini"
  refine attr_i h7 (by rfl) h8 ?_
  exact q
theorem append_s {a : Addr} {xs : List MV} {x : MV} (hs : σ a = some (.list xs)) (hl : xs.length ≤ 1000) (q : Q .none (σ.put a (.list (xs ++ [x])))) : CS1 c.toCx r (.builtin "list.append") [.ref a, x] σ Q E t := append_spec hs (by unfold lineL; lia) q
theorem pop_s {a : Addr} {xs : List MV} {x : MV} (hs : σ a = some (.list (xs ++ [x]))) (hl : xs.length ≤ 1000) (q : Q x (σ.put a (.list xs))) : CS1 c.toCx r (.builtin "list.pop") [.ref a] σ Q E t := pop_spec hs (by unfold lineL; lia) q
theorem resolve_s {tg kd : MV} {ref wt w lo hw : Int} {cx : Addr} (hr : 2 ≤ r)
    (hh : ∀ (σ' : Hp) (Q' E' : MV → Hp → Prop) (t' : Tk Q' E'), Same [] σ σ' → Q' (.int hw) σ' → CS1 c.toCx (r - 1) (.ref A.f_holder_width) [.tup [kd, .int w, .int ref, .none, .tup [.sym 5, .int lo]], .ref cx] σ' Q' E' t')
    (q : ∀ a σ', σ a = none → Same [] σ σ' → σ' a = some (.list (if lo + w ≤ 0 ∨ hw ≤ lo then [] else [.tup [kd, .int ref, .none, .int lo, .int w, .int (wt - w)]])) → Q (.ref a) σ') :
    CS1 c.toCx r (.ref A.f_resolve_target) [.tup [tg, .int wt, .tup [.tup [kd, .int w, .int ref, .none, .tup [.sym 5, .int lo]]]], .ref cx] σ Q E t := by
  refine cal_resolve_target (by walk_at "om") ?_
  walk_at "st"
  intro a ha
  walk_at "mini"
  walk_at "st"
  walk_at "st"
  refine for_rule (by walk_at "om") ?_
  walk_at "mini"
  refine forK_unr ⟨trivial, ?_⟩
  show setP _ _ _ _
  walk_at "mini"
  walk_at "st"
  refine ⟨by lia, ?_⟩
  walk_at "st"
  walk_at "st"
  walk_at "st"
  walk_at "st"
  refine locate_s (by walk_at "om") ?_
  walk_at "mini"
  walk_at "st"
  have s0 : Same [] σ (σ.put a (.list [])) := Same.new ha
  by_cases h1 : lo + w ≤ 0
  · rw [decide_eq_true h1]
    walk_at "mini"
    walk_at "sts"
    refine ⟨trivial, ?_⟩
    walk_at "mini"
    walk_at "sts"
    refine q a _ ha s0 ?_
    rw [put_eq, if_pos (.inl h1)]
  · rw [decide_eq_false h1]
    walk_at "mini"
    refine hh _ _ _ _ s0 ?_
    walk_at "mini"
    by_cases h2 : hw ≤ lo
    · rw [decide_eq_true h2]
      walk_at "mini"
      walk_at "sts"
      refine ⟨trivial, ?_⟩
      walk_at "mini"
      walk_at "sts"
      refine q a _ ha s0 ?_
      rw [put_eq, if_pos (.inr h2)]
    · rw [decide_eq_false h2]
      walk_at "mini"
      walk_at "st"
      refine meth_app put_eq ?_
      walk_at "mini"
      refine append_s put_eq (by simp) ?_
      walk_at "mini"
      refine ⟨trivial, ?_⟩
      walk_at "mini"
      walk_at "sts"
      refine q a _ ha ?_ ?_
      · rw [put_put]; exact Same.new ha
      · rw [put_eq, if_neg (by walk_at "om")]
end
theorem V_data (cs : List Nat) : (V cs).isData 8 = true := rfl
theorem V_beq {xs ys : List Nat} (hx : Ok xs) (hy : Ok ys) (hl : xs.length = ys.length) : (V xs).beq (V ys) = decide (xs = ys) := by
  have e : (V xs).beq (V ys) = (decide ((xs.length : Int) = ys.length) && (decide ((lo2 xs : Int) = lo2 ys) && (decide ((hi2 xs : Int) = hi2 ys) && true))) := rfl
  rw [e, hl]
  by_cases h : xs = ys
  · subst h; simp
  · rw [decide_eq_false h]
    by_cases h1 : lo2 xs = lo2 ys
    · have h2 : ¬ hi2 xs = hi2 ys := fun z => h (V_inj hx hy hl h1 z)
      rw [decide_eq_false (by lia : ¬ (hi2 xs : Int) = hi2 ys)]; simp
    · rw [decide_eq_false (by lia : ¬ (lo2 xs : Int) = lo2 ys)]; simp
def SigVal (vals : List (Int × MV)) (k : Nat) (w : Nat) (v : List Nat) : Prop := getI k vals = some (V v) ∨ (getI k vals = none ∧ v = gen w fun _ => 3)
structure SigAt (σ : Hp) (st dv sl : Addr) (k w : Nat) : Prop where
  st : ∃ fs, σ st = some (.inst A.c_Store fs) ∧ fs.lookup 52 = some (.ref dv) ∧ fs.lookup 48 = some (.ref sl) ∧ fs.lookup 3 = none ∧ fs.lookup 51 = none
  sg : ∃ sigs s gs, σ sl = some (.list sigs) ∧ sigs[k]? = some (.ref s) ∧ σ s = some (.inst A.c_Signal gs) ∧ gs.lookup 4 = some (.sym 126) ∧ gs.lookup 49 = some (.int w) ∧ gs.lookup 55 = none
  hw : w ≤ 20
  hk : k ≤ 100
section
variable {c : CX} {r : Nat} {σ : Hp} {Q E : MV → Hp → Prop} {t : Tk Q E}
theorem get_s {st dv sl : Addr} {k w : Nat} {vals : List (Int × MV)} (v : List Nat) (hr : 4 ≤ r) (h : SigAt σ st dv sl k w) (hd : σ dv = some (.dI vals)) (hv : SigVal vals k w v) (q : Q (V v) σ) : CS1 c.toCx r (.ref A.f_Store_get) [.ref st, .int k] σ Q E t := by
  obtain ⟨⟨fs, a1, a2, a3, a4, a5⟩, ⟨sigs, s, gs, b1, b2, b3, b4, b5, b6⟩, hw, hk⟩ := h
  exact store_get_s v hr a1 a2 hd hv a3 b1 b2 b3 b4 b5 b6 hw hk q
theorem set_bits_s {st dv sl : Addr} {k w : Nat} {lo : Int} {vals : List (Int × MV)} {ps : List Nat} (v : List Nat) (hr : 5 ≤ r) (h : SigAt σ st dv sl k w) (hd : σ dv = some (.dI vals)) (hv : SigVal vals k w v) (ok : Ok v) (okp : Ok ps) (hl : v.length ≤ 20) (hp : ps.length ≤ 20) (hlo : -100 ≤ lo ∧ lo ≤ 100) (hn : vals.length ≤ 1000)
    (q0 : putC v lo ps = v → Q (.bool false) σ) (q1 : putC v lo ps ≠ v → Q (.bool true) (σ.put dv (.dI (putI k (V (putC v lo ps)) vals)))) : CS1 c.toCx r (.ref A.f_Store_set_bits) [.ref st, .int k, .none, .int lo, V ps] σ Q E t := by
  have h' := h
  obtain ⟨⟨fs, a1, a2, a3, a4, a5⟩, _, _, hk⟩ := h'
  refine cal_Store_set_bits (by walk_at "om") ?_
  walk_at "st"
  walk_at "st"
  refine meth_i a1 (by rfl) a4 ?_
  walk_at "mini"
  refine get_s v (by walk_at "om") h hd hv ?_
  walk_at "st"
  refine put_slice_s (by walk_at "om") ok okp hl hp hlo ?_
  walk_at "mini"
  walk_at "st"
  have e : ∀ (Q' : Bool → Prop), Q' (decide (putC v lo ps = v)) → cmpP .Eq (V (putC v lo ps)) (V v) σ Q' := fun Q' z => by
    unfold V
    rw [cmp_tt]
    refine ⟨⟨rfl, rfl⟩, ?_⟩
    have := V_beq (putC_ok ok okp lo) ok putC_len
    unfold V at this
    rw [this]; exact z
  refine e _ ?_
  by_cases hc : putC v lo ps = v
  · rw [decide_eq_true hc]
    walk_at "mini"
    walk_at "sts"
    exact q0 hc
  · rw [decide_eq_false hc]
    walk_at "mini"
    walk_at "st"
    refine attr_i a1 (by rfl) a2 ?_
    walk_at "mini"
    refine seti_d hd hn ?_
    walk_at "sts"
    exact q1 hc
theorem sorted_s {a : Addr} {kvs : List (Int × MV)} (hr : 1 ≤ r) (hs : σ a = some (.dI kvs)) (hl : kvs.length < 64) (q : ∀ (a' : Addr) (ns : List Int), σ a' = none → ns.Perm (kvs.map (·.1)) → ns.Pairwise (· ≤ ·) → Q (.ref a') (σ.put a' (.list (ns.map MV.int)))) :
    CS1 c.toCx r (.builtin "sorted") [.ref a] σ Q E t := by
  obtain ⟨r, rfl⟩ : ∃ k, r = k + 1 := ⟨r - 1, by lia⟩
  exact sortd_spec hs hl q
theorem store_rows0 {rows cx : Addr} {v : MV} (hr : 2 ≤ r) (h1 : σ rows = some (.list [])) (q : ∀ a σ', Same [] σ σ' → σ' a = some (.list []) → Q (.ref a) σ') : CS1 c.toCx r (.ref A.f_store_rows) [.ref rows, v, .ref cx] σ Q E t := by
  refine cal_store_rows (by walk_at "om") ?_
  walk_at "st"
  intro d hd
  walk_at "mini"
  walk_at "st"
  refine for_rule (by walk_at "om") ?_
  walk_at "mini"
  have hr' := ne_new h1 hd
  refine ⟨[], by rw [put_ne hr']; exact h1, ?_⟩
  refine forK_unr ⟨(put_ne hr').trans h1, ?_⟩
  walk_at "mini"
  walk_at "st"
  refine sorted_s (by walk_at "om") put_eq (by decide) fun a ns ha hp _ => ?_
  have : ns = [] := by simpa using hp
  subst this
  walk_at "mini"
  exact q a _ ((Same.new hd).trans (Same.new ha)) put_eq
theorem store_rows_local {rows cx fr : Addr} {i : Nat} {lo : Int} {w : Nat} {fs : List (Nat × MV)} {xs : List MV} {cs old : List Nat} (hr : 5 ≤ r) (h0 : σ rows = some (.list [.tup [.sym 34, .int i, .none, .int lo, .int w, .int 0]]))
    (h1 : σ cx = some (.inst A.c_FunctionContext fs)) (h2 : fs.lookup 35 = some (.ref fr)) (h3 : σ fr = some (.list xs)) (h4 : xs[i]? = some (V old)) (hi : i ≤ 100) (ok : Ok cs) (oko : Ok old) (hl : cs.length ≤ 20) (hlo : old.length ≤ 20) (hw : w ≤ 20) (hb : -100 ≤ lo ∧ lo ≤ 100) (hne : rows ≠ fr)
    (q : ∀ a σ', Same [fr] σ σ' → σ' fr = some (.list (xs.set i (V (putC old lo (sliceC cs 0 w))))) → σ' a = some (.list []) → Q (.ref a) σ') : CS1 c.toCx r (.ref A.f_store_rows) [.ref rows, V cs, .ref cx] σ Q E t := by
  refine cal_store_rows (by walk_at "om") ?_
  walk_at "st"
  intro d hd
  walk_at "mini"
  have d0 := ne_new h0 hd
  have d1 := ne_new h1 hd
  have d3 := ne_new h3 hd
  walk_at "st"
  refine for_rule (by walk_at "om") ?_
  walk_at "mini"
  refine ⟨_, by rw [put_ne d0]; exact h0, ?_⟩
  refine forK_unr ⟨(put_ne d0).trans h0, ?_⟩
  refine ⟨by lia, ?_⟩
  show manyP _ _ _ _
  walk_at "mini"
  walk_at "st"
  refine slice_vec_s w (by walk_at "om") ok hl hw rfl (by walk_at "om") ?_
  walk_at "st"
  walk_at "st"
  refine attr_i (by rw [put_ne d1]; exact h1) (by rfl) h2 ?_
  walk_at "mini"
  refine item_l i (by rw [put_ne d3]; exact h3) rfl (by walk_at "om") h4 ?_
  walk_at "mini"
  refine put_slice_s (by walk_at "om") oko (sliceC_ok ok _ _) hlo (by simp [sliceC, gen_len]; exact hw) hb ?_
  walk_at "mini"
  refine attr_i (by rw [put_ne d1]; exact h1) (by rfl) h2 ?_
  walk_at "mini"
  have hil : i < xs.length := (List.getElem?_eq_some_iff.mp h4).1
  refine seti_l i (by rw [put_ne d3]; exact h3) rfl (by walk_at "om") hil ?_
  walk_at "mini"
  refine ⟨(put_ne hne).trans ((put_ne d0).trans h0), ?_⟩
  walk_at "mini"
  walk_at "st"
  refine sorted_s (by walk_at "om") (by rw [put_ne (Ne.symm d3)]; exact put_eq) (by decide) fun a ns ha hp _ => ?_
  have : ns = [] := by simpa using hp
  subst this
  walk_at "mini"
  have hfa : fr ≠ a := fun z => by rw [z, put_eq] at ha; cases ha
  refine q a _ ?_ ?_ put_eq
  · exact (((Same.new (F := [fr]) hd).trans Same.put)).trans (Same.new ha)
  · rw [put_ne hfa]; exact put_eq
end
noncomputable def fcO (st fr d dw : Addr) (fuel depth : Int) : MObj := .inst A.c_FunctionContext [(33, .ref st), (35, .ref fr), (57, .int 0), (59, .ref d), (60, .int fuel), (61, .int depth), (62, .ref dw)]
noncomputable def excO (C : Addr) (k a d : MV) : MObj := .exc C [(4, k), (5, a), (6, d)]
section
variable {c : CX} {r : Nat} {σ : Hp} {Q E Q' E' : MV → Hp → Prop} {t : Tk Q E} {t' : Tk Q' E'}
theorem CS1.mono {f : Value} {args : List MV} (h : CS1 c.toCx r f args σ Q E t) (hQ : ∀ v σ', Q v σ' → Q' v σ') (hE : ∀ v σ', E v σ' → E' v σ') : CS1 c.toCx r f args σ Q' E' t' := by
  intro A fs own h0 t0 vs ac I rv
  refine wpAny_mono (h A fs own h0 t0 vs ac I rv) (fun v s' p => ?_) (fun e s' p => ?_)
  · obtain ⟨h', t', own', σ', e, I', x, k, m, rm, q⟩ := p
    exact ⟨h', t', own', σ', e, I', x, k, m, rm, hQ _ _ q⟩
  · obtain ⟨h', t', own', σ', e, I', x, k, a, C, fs, e1, e2, q⟩ := p
    exact ⟨h', t', own', σ', e, I', x, k, a, C, fs, e1, e2, hE _ _ q⟩
theorem exc_body {x : Addr} {C : Addr} {k a d : MV} (hr : 1 ≤ r) (hC : C = A.c_LimitReached ∨ C = A.c_DesignError) (hx : σ x = none) (q : Q (.ref x) (σ.put x (excO C k a d))) :
    CodeSpec c.toCx r (.ref A.f_GateloomError___init__) [.ref x, k, a, d] (σ.put x (.exc C [])) (fun v σ1 => v = .none ∧ Q (.ref x) σ1) E := by
  refine cod_GateloomError___init__ (by walk_at "om") ?_
  rcases hC with rfl | rfl <;>
  · walk_at "st"
    refine seta_e put_eq (by rfl) (Nat.le_of_ble_eq_true rfl) ?_
    rw [put_put]
    walk_at "st"
    refine seta_e put_eq (by rfl) (Nat.le_of_ble_eq_true rfl) ?_
    rw [put_put]
    walk_at "st"
    refine seta_e put_eq (by rfl) (Nat.le_of_ble_eq_true rfl) ?_
    rw [put_put]
    walk_at "mini"
    exact q
theorem exc_body2 {x : Addr} {C : Addr} {k : MV} (hr : 1 ≤ r) (hC : C = A.c_LimitReached ∨ C = A.c_DesignError) (hx : σ x = none) (q : Q (.ref x) (σ.put x (excO C k (.int (-1)) (.sym 122)))) :
    CodeSpec c.toCx r (.ref A.f_GateloomError___init__) [.ref x, k] (σ.put x (.exc C [])) (fun v σ1 => v = .none ∧ Q (.ref x) σ1) E := by
  refine cod_GateloomError___init___2 (by walk_at "om") ?_
  rcases hC with rfl | rfl <;>
  · walk_at "st"
    refine seta_e put_eq (by rfl) (Nat.le_of_ble_eq_true rfl) ?_
    rw [put_put]
    walk_at "st"
    refine seta_e put_eq (by rfl) (Nat.le_of_ble_eq_true rfl) ?_
    rw [put_put]
    walk_at "st"
    refine seta_e put_eq (by rfl) (Nat.le_of_ble_eq_true rfl) ?_
    rw [put_put]
    walk_at "mini"
    exact q
theorem limit_s {k : MV} (hr : 2 ≤ r) (q : ∀ x, σ x = none → Q (.ref x) (σ.put x (excO A.c_LimitReached k (.int (-1)) (.sym 122)))) : CS1 c.toCx r (.ref A.c_LimitReached) [k] σ Q E t :=
  new_LimitReached (by walk_at "om") (Nat.le_of_ble_eq_true rfl) fun x hx => exc_body2 (by walk_at "om") (.inl rfl) hx (q x hx)
theorem design1_s {k : MV} (hr : 2 ≤ r) (q : ∀ x, σ x = none → Q (.ref x) (σ.put x (excO A.c_DesignError k (.int (-1)) (.sym 122)))) : CS1 c.toCx r (.ref A.c_DesignError) [k] σ Q E t :=
  new_DesignError (by walk_at "om") (Nat.le_of_ble_eq_true rfl) fun x hx => exc_body2 (by walk_at "om") (.inr rfl) hx (q x hx)
theorem design3_s {k a d : MV} (hr : 2 ≤ r) (q : ∀ x, σ x = none → Q (.ref x) (σ.put x (excO A.c_DesignError k a d))) : CS1 c.toCx r (.ref A.c_DesignError) [k, a, d] σ Q E t :=
  new_DesignError (by walk_at "om") (Nat.le_of_ble_eq_true rfl) fun x hx => exc_body (by walk_at "om") (.inr rfl) hx (q x hx)
variable {st fr d dw cx : Addr} {fuel depth : Int}
theorem burn_s (hr : 3 ≤ r) (h : σ cx = some (fcO st fr d dw fuel depth)) (q0 : fuel ≤ 0 → ∀ x, σ x = none → E (.ref x) (σ.put x (excO A.c_LimitReached (.sym 70) (.int (-1)) (.sym 122)))) (q1 : 0 < fuel → Q .none (σ.put cx (fcO st fr d dw (fuel - 1) depth))) :
    CS1 c.toCx r (.ref A.f_FunctionContext_burn) [.ref cx] σ Q E t := by
  refine cal_FunctionContext_burn (by walk_at "om") ?_
  walk_at "st"
  refine attr_i h (by rfl) (by rfl) ?_
  walk_at "mini"
  by_cases hf : fuel ≤ 0
  · rw [decide_eq_true hf]
    walk_at "mini"
    walk_at "st"
    refine ⟨by lia, limit_s (by walk_at "om") fun x hx => ?_⟩
    exact ⟨x, _, _, rfl, put_eq, by rfl, q0 hf x hx⟩
  · rw [decide_eq_false hf]
    walk_at "mini"
    walk_at "st"
    refine attr_i h (by rfl) (by rfl) ?_
    walk_at "mini"
    refine seta_i h (by rfl) (Nat.le_of_ble_eq_true rfl) ?_
    walk_at "mini"
    exact q1 (by walk_at "om")
theorem is_true_s {e : MV} (hr : 3 ≤ r) (q : CS1 c.toCx (r - 1) (.ref A.f_evaluate) [e, .ref cx] σ (fun v σ1 => ∃ cs, v = V cs ∧ Ok cs ∧ cs.length ≤ 20 ∧ Q (.bool (decide (truthC cs = 1))) σ1) E {}) : CS1 c.toCx r (.ref A.f_FunctionContext_is_true) [.ref cx, e] σ Q E t := by
  refine cal_FunctionContext_is_true (by walk_at "om") ?_
  walk_at "st"
  refine CS1.mono q (fun v σ1 z => ?_) (fun _ _ z => z)
  obtain ⟨cs, hv, ok, hl, q⟩ := z
  subst hv
  refine truth_s (by walk_at "om") ok hl ?_
  walk_at "mini"
  rw [show decide ((truthC cs : Int) = 1) = decide (truthC cs = 1) by rw [decide_eq_decide]; lia]
  exact q
/-! one statement -/
theorem rs_none {x : MV} (hr : 1 ≤ r) (q : Q .none σ) : CS1 c.toCx r (.ref A.f_run_statement) [.none, x] σ Q E t := by
  refine cal_run_statement (by walk_at "om") ?_
  walk_at "sts"
  exact q
theorem rs_burn {tag : Nat} {rest : List MV} (hr : 4 ≤ r) (h : σ cx = some (fcO st fr d dw fuel depth)) (q0 : fuel ≤ 0 → ∀ x, σ x = none → E (.ref x) (σ.put x (excO A.c_LimitReached (.sym 70) (.int (-1)) (.sym 122))))
    (q1 : 0 < fuel → swps Tb (CSf c.toCx) (r - 1) M.run_statement_12_3 [some (.tup (.sym tag :: rest)), some (.ref cx), some (.sym tag)] (σ.put cx (fcO st fr d dw (fuel - 1) depth)) (retQ Q) fun x _ σ1 => E x σ1) :
    CS1 c.toCx r (.ref A.f_run_statement) [.tup (.sym tag :: rest), .ref cx] σ Q E t := by
  refine cal_run_statement (by walk_at "om") ?_
  walk_at "st"
  walk_at "st"
  refine meth_i h (by rfl) (by rfl) ?_
  walk_at "mini"
  refine burn_s (by walk_at "om") h q0 fun hf => ?_
  walk_at "mini"
  walk_at "st"
  have R : Rest ‹List MS› M.run_statement_12_3 := by assumption
  rw [R.h]
  exact q1 hf
end
section
variable {c : CX} {r : Nat} {σ : Hp} {Q E : MV → Hp → Prop} {t : Tk Q E}
variable {st fr d dw cx : Addr} {fuel depth : Int} {rest : List MV}
def Burnt (σ : Hp) (E : MV → Hp → Prop) : Prop := ∀ x, σ x = none → E (.ref x) (σ.put x (excO A.c_LimitReached (.sym 70) (.int (-1)) (.sym 122)))
theorem rs_set (hr : 4 ≤ r) (h : σ cx = some (fcO st fr d dw fuel depth)) (q0 : fuel ≤ 0 → Burnt σ E) (q1 : 0 < fuel → CS1 c.toCx (r - 1) (.ref A.f_run_set) [.tup (.sym 74 :: rest), .ref cx] (σ.put cx (fcO st fr d dw (fuel - 1) depth)) Q E {}) :
    CS1 c.toCx r (.ref A.f_run_statement) [.tup (.sym 74 :: rest), .ref cx] σ Q E t := by
  refine rs_burn hr h q0 fun hf => ?_
  walk_at "sts"
  exact q1 hf
theorem rs_block (hr : 4 ≤ r) (h : σ cx = some (fcO st fr d dw fuel depth)) (q0 : fuel ≤ 0 → Burnt σ E) (q1 : 0 < fuel → CS1 c.toCx (r - 1) (.ref A.f_run_block) [.tup (.sym 75 :: rest), .ref cx] (σ.put cx (fcO st fr d dw (fuel - 1) depth)) Q E {}) :
    CS1 c.toCx r (.ref A.f_run_statement) [.tup (.sym 75 :: rest), .ref cx] σ Q E t := by
  refine rs_burn hr h q0 fun hf => ?_
  walk_at "sts"
  exact q1 hf
theorem rs_if {e a b : MV} (hr : 4 ≤ r) (h : σ cx = some (fcO st fr d dw fuel depth)) (q0 : fuel ≤ 0 → Burnt σ E)
    (q1 : 0 < fuel → CS1 c.toCx (r - 1) (.ref A.f_FunctionContext_is_true) [.ref cx, e] (σ.put cx (fcO st fr d dw (fuel - 1) depth)) (fun v σ1 => ∃ k : Bool, v = .bool k ∧ CS1 c.toCx (r - 1) (.ref A.f_run_statement) [if k then a else b, .ref cx] σ1 Q E {}) E {}) :
    CS1 c.toCx r (.ref A.f_run_statement) [.tup [.sym 76, e, a, b], .ref cx] σ Q E t := by
  refine rs_burn hr h q0 fun hf => ?_
  walk_at "st"
  walk_at "st"
  walk_at "st"
  walk_at "st"
  refine meth_i put_eq (by rfl) (by rfl) ?_
  walk_at "mini"
  refine CS1.mono (q1 hf) (fun v σ1 z => ?_) (fun _ _ z => z)
  obtain ⟨k, hv, q⟩ := z
  subst hv
  cases k
  · walk_at "mini"
    walk_at "sts"
    exact q
  · walk_at "mini"
    walk_at "sts"
    exact q
theorem rs_forever {b : MV} (hr : 4 ≤ r) (h : σ cx = some (fcO st fr d dw fuel depth)) (q0 : fuel ≤ 0 → Burnt σ E) (q1 : 0 < fuel → CS1 c.toCx (r - 1) (.ref A.f_run_while) [.none, b, .none, .ref cx] (σ.put cx (fcO st fr d dw (fuel - 1) depth)) Q E {}) :
    CS1 c.toCx r (.ref A.f_run_statement) [.tup [.sym 81, b], .ref cx] σ Q E t := by
  refine rs_burn hr h q0 fun hf => ?_
  walk_at "sts"
  exact q1 hf
theorem rs_disable {k : MV} (hr : 4 ≤ r) (h : σ cx = some (fcO st fr d dw fuel depth)) (q0 : fuel ≤ 0 → Burnt σ E) (q1 : 0 < fuel → Q k (σ.put cx (fcO st fr d dw (fuel - 1) depth))) :
    CS1 c.toCx r (.ref A.f_run_statement) [.tup [.sym 82, k], .ref cx] σ Q E t := by
  refine rs_burn hr h q0 fun hf => ?_
  walk_at "sts"
  exact q1 hf
theorem rs_other {tag : Nat} (ht : tag = 127 ∨ tag = 128 ∨ tag = 130 ∨ tag = 131 ∨ tag = 132 ∨ tag = 45 ∨ tag = 133 ∨ tag = 46) (hr : 4 ≤ r) (h : σ cx = some (fcO st fr d dw fuel depth)) (q0 : fuel ≤ 0 → Burnt σ E)
    (q1 : 0 < fuel → ∀ x, (σ.put cx (fcO st fr d dw (fuel - 1) depth)) x = none → E (.ref x) ((σ.put cx (fcO st fr d dw (fuel - 1) depth)).put x (excO A.c_DesignError (.sym 83) (.int (-1)) (.sym tag)))) :
    CS1 c.toCx r (.ref A.f_run_statement) [.tup (.sym tag :: rest), .ref cx] σ Q E t := by
  refine rs_burn hr h q0 fun hf => ?_
  rcases ht with rfl | rfl | rfl | rfl | rfl | rfl | rfl | rfl <;>
  · walk_at "sts"
    exact ⟨by lia, design3_s (by walk_at "om") fun x hx => ⟨x, _, _, rfl, put_eq, by rfl, q1 hf x hx⟩⟩
def blockW (c : CX) (r : Nat) (cx : Addr) (sc : Int) (Q E : MV → Hp → Prop) : List MV → Hp → Prop
  | [], σ => Q .none σ
  | s :: ss, σ => CS1 c.toCx r (.ref A.f_run_statement) [s, .ref cx] σ (fun v σ1 => (v = .none ∧ blockW c r cx sc Q E ss σ1) ∨ ∃ k : Int, v = .int k ∧ Q (if k = sc then .none else .int k) σ1) E {}
theorem run_block_s {x : MV} {ss : List MV} {sc : Int} (hr : 2 ≤ r) (q : blockW c (r - 1) cx sc Q E ss σ) : CS1 c.toCx r (.ref A.f_run_block) [.tup [x, .tup ss, .int sc], .ref cx] σ Q E t := by
  refine cal_run_block (by walk_at "om") ?_
  walk_at "st"
  refine for_rule (by walk_at "om") ?_
  walk_at "mini"
  refine ⟨fun rest l s => ∃ l2 l3, l = [some (.tup [x, .tup ss, .int sc]), some (.ref cx), l2, l3] ∧ blockW c (r - 1) cx sc Q E rest s, ⟨_, _, rfl, q⟩, fun _ _ _ _ => trivial, fun y rest l s z => ?_, fun l s z => ?_⟩
  · obtain ⟨l2, l3, rfl, q⟩ := z
    show setP _ _ _ _
    walk_at "mini"
    walk_at "st"
    refine CS1.mono q (fun v σ1 hv => ?_) (fun _ _ z => z)
    rcases hv with ⟨rfl, q⟩ | ⟨k, rfl, q⟩
    · walk_at "mini"
      walk_at "st"
      exact ⟨_, _, rfl, q⟩
    · walk_at "mini"
      walk_at "st"
      walk_at "st"
      by_cases hk : k = sc
      · rw [decide_eq_true hk]
        rw [if_pos hk] at q
        walk_at "mini"
        walk_at "sts"
        exact q
      · rw [decide_eq_false hk]
        rw [if_neg hk] at q
        walk_at "mini"
        walk_at "sts"
        exact q
  · obtain ⟨l2, l3, rfl, q⟩ := z
    walk_at "mini"
    walk_at "sts"
    exact q
theorem run_forever_s {b : MV} (hr : 2 ≤ r) (I : Nat → Hp → Prop) (n : Nat) (h0 : I n σ) (hc : ∀ n s, I n s → ∃ fs, s cx = some (.inst A.c_FunctionContext fs) ∧ fs.lookup 73 = none)
    (h : ∀ n s, I n s → CS1 c.toCx (r - 1) (.ref A.f_FunctionContext_burn) [.ref cx] s (fun _ s1 => CS1 c.toCx (r - 1) (.ref A.f_run_statement) [b, .ref cx] s1 (fun v s2 => (v = .none ∧ ∃ m, m < n ∧ I m s2) ∨ ∃ k : Int, v = .int k ∧ Q (.int k) s2) E {}) E {}) :
    CS1 c.toCx r (.ref A.f_run_while) [.none, b, .none, .ref cx] σ Q E t := by
  refine cal_run_while (by walk_at "om") ?_
  walk_at "st"
  refine whl_rule (fun n l s => ∃ l4, l = [some .none, some b, some .none, some (.ref cx), l4] ∧ I n s) n ⟨_, rfl, h0⟩ fun n l s z => ?_
  obtain ⟨l4, hl, hI⟩ := z
  subst hl
  walk_at "mini"
  walk_at "st"
  obtain ⟨fs, hf, hl⟩ := hc n s hI
  refine meth_i hf (by rfl) hl ?_
  walk_at "mini"
  refine CS1.mono (h n s hI) (fun v s1 q => ?_) (fun _ _ z => z)
  walk_at "st"
  refine CS1.mono q (fun v s2 hv => ?_) (fun _ _ z => z)
  rcases hv with ⟨rfl, m, hm, hI⟩ | ⟨k, rfl, q⟩
  · walk_at "mini"
    walk_at "st"
    walk_at "st"
    refine rs_none (by walk_at "om") ?_
    walk_at "mini"
    exact ⟨m, hm, _, rfl, hI⟩
  · walk_at "mini"
    walk_at "st"
    walk_at "sts"
    exact q
/-! one assignment -/
theorem run_set_late {a lv e : MV} {xs : List MV} (hr : 3 ≤ r) (q : ∀ x, σ x = none → E (.ref x) (σ.put x (excO A.c_DesignError (.sym 71) (.int (-1)) (.sym 122)))) : CS1 c.toCx r (.ref A.f_run_set) [.tup [a, lv, e, .tup xs], .ref cx] σ Q E t := by
  refine cal_run_set (by walk_at "om") ?_
  walk_at "sts"
  exact ⟨by lia, design1_s (by walk_at "om") fun x hx => ⟨x, _, _, rfl, put_eq, by rfl, q x hx⟩⟩
def AfterLocal (cx : Addr) (i : Nat) (lo : Int) (w : Nat) (Q : MV → Hp → Prop) (v : MV) (σ : Hp) : Prop :=
  ∃ cs old fr fs xs, v = V cs ∧ Ok cs ∧ Ok old ∧ cs.length ≤ 20 ∧ old.length ≤ 20 ∧ σ cx = some (.inst A.c_FunctionContext fs) ∧ fs.lookup 35 = some (.ref fr) ∧ σ fr = some (.list xs) ∧ xs[i]? = some (V old) ∧
    ∀ σ', Same [fr] σ σ' → σ' fr = some (.list (xs.set i (V (putC old lo (sliceC cs 0 w))))) → Q .none σ'
theorem run_set_local {a tg e : MV} {i w : Nat} {lo : Int} (hr : 8 ≤ r) (hi : i ≤ 100) (hw : w ≤ 20) (hlo : -50 ≤ lo ∧ lo ≤ 50) (q : CS1 c.toCx (r - 1) (.ref A.f_evaluate) [e, .ref cx] σ (AfterLocal cx i lo w Q) E {}) :
    CS1 c.toCx r (.ref A.f_run_set) [.tup [a, .tup [tg, .int w, .tup [.tup [.sym 34, .int w, .int i, .none, .tup [.sym 5, .int lo]]]], e, .none], .ref cx] σ Q E t := by
  refine cal_run_set (by walk_at "om") ?_
  walk_at "st"
  walk_at "st"
  refine CS1.mono q (fun v σ1 hv => ?_) (fun _ _ z => z)
  obtain ⟨cs, old, fr, fs, xs, rfl, ok, oko, hl, hlold, h1, h2, h3, h4, q⟩ := hv
  unfold V at h4
  walk_at "st"
  refine for_rule (by walk_at "om") ?_
  walk_at "mini"
  refine resolve_s (hw := old.length) (by walk_at "om") (fun σ' Q' E' t' hs q' => holder_local (by walk_at "om") (hs _ _ h1 (by simp)) h2 (hs _ _ h3 (by simp)) h4 hi q') fun a σ2 ha hs hrow => ?_
  walk_at "mini"
  have g1 := hs _ _ h1 (by simp)
  have g3 := hs _ _ h3 (by simp)
  by_cases hout : lo + w ≤ 0 ∨ (old.length : Int) ≤ lo
  · rw [if_pos hout] at hrow
    refine store_rows0 (by walk_at "om") hrow fun b σ3 hs3 hb => ?_
    walk_at "mini"
    refine ⟨[], hb, forK_unr ⟨hb, ?_⟩⟩
    walk_at "mini"
    walk_at "sts"
    refine q σ3 ((hs.mono (by simp)).trans (hs3.mono (by simp))) ?_
    have e1 : putC old lo (sliceC cs 0 w) = old := by
      refine codes_ext putC_len fun j hj => ?_
      rw [putC_len] at hj
      unfold putC
      rw [gen_at, if_pos hj, if_neg]
      have : (sliceC cs 0 w).length = w := gen_len ..
      rw [this]; lia
    rw [e1]
    have e2 : xs.set i (V old) = xs := by
      refine List.ext_getElem? fun j => ?_
      rw [List.getElem?_set]
      by_cases hj : i = j
      · subst hj; rw [if_pos rfl, if_pos (List.getElem?_eq_some_iff.mp h4).1]; exact h4.symm
      · rw [if_neg hj]
    rw [e2]
    exact hs3 _ _ g3 (by simp)
  · rw [if_neg hout] at hrow
    have hrw : ((w : Int) - w) = 0 := by lia
    rw [hrw] at hrow
    have hne : a ≠ fr := fun z => by rw [z, h3] at ha; cases ha
    refine store_rows_local (by walk_at "om") hrow g1 h2 g3 h4 hi ok oko hl hlold hw (by walk_at "om") hne fun b σ3 hs3 h3' hb => ?_
    walk_at "mini"
    refine ⟨[], hb, forK_unr ⟨hb, ?_⟩⟩
    walk_at "mini"
    walk_at "sts"
    exact q σ3 ((hs.mono (by simp)).trans hs3) h3'
end
section
variable {c : CX} {r : Nat} {σ : Hp} {Q E : MV → Hp → Prop} {t : Tk Q E}
theorem SigAt.same {F : List Addr} {σ σ' : Hp} {st dv sl : Addr} {k w : Nat} (h : SigAt σ st dv sl k w) (s : Same F σ σ') (h1 : st ∉ F) (h2 : sl ∉ F) (h3 : ∀ s', σ sl = some (.list s') → ∀ x, .ref x ∈ s' → x ∉ F) : SigAt σ' st dv sl k w := by
  obtain ⟨⟨fs, a1, a2⟩, ⟨sigs, sg, gs, b1, b2, b3, b4⟩, hw, hk⟩ := h
  exact ⟨⟨fs, s _ _ a1 h1, a2⟩, ⟨sigs, sg, gs, s _ _ b1 h2, b2, s _ _ b3 (h3 _ b1 _ (List.mem_of_getElem? b2)), b4⟩, hw, hk⟩
theorem SigAt.up {σ σ' : Hp} {st dv sl : Addr} {k w : Nat} (h : SigAt σ st dv sl k w) (s : Same [] σ σ') : SigAt σ' st dv sl k w := h.same s (by simp) (by simp) (by simp)
theorem SigAt.dv {σ σ' : Hp} {st dv sl a : Addr} {k w : Nat} {kvs : List (Int × MV)} (h : SigAt σ st dv sl k w) (s : Same [a] σ σ') (ha : σ a = some (.dI kvs)) : SigAt σ' st dv sl k w := by
  obtain ⟨⟨fs, a1, a2⟩, ⟨sigs, sg, gs, b1, b2, b3, b4⟩, hw, hk⟩ := h
  have n : ∀ {b o}, σ b = some o → (∀ l, o ≠ .dI l) → b ∉ [a] := fun {b o} e n z => by
    have : b = a := by simpa using z
    subst this; rw [ha] at e; cases e; exact n _ rfl
  exact ⟨⟨fs, s _ _ a1 (n a1 (by simp)), a2⟩, ⟨sigs, sg, gs, s _ _ b1 (n b1 (by simp)), b2, s _ _ b3 (n b3 (by simp)), b4⟩, hw, hk⟩
theorem SigAt.ls {σ σ' : Hp} {st dv sl a : Addr} {k w : Nat} (h : SigAt σ st dv sl k w) (s : Same [a] σ σ') (ha : a ≠ sl) {l : List MV} (hl : σ a = some (.list l)) : SigAt σ' st dv sl k w := by
  obtain ⟨⟨fs, a1, a2⟩, ⟨sigs, sg, gs, b1, b2, b3, b4⟩, hw, hk⟩ := h
  have n : ∀ {b o}, σ b = some o → (∀ l, o ≠ .list l) → b ∉ [a] := fun {b o} e n z => by
    have : b = a := by simpa using z
    subst this; rw [hl] at e; cases e; exact n _ rfl
  exact ⟨⟨fs, s _ _ a1 (n a1 (by simp)), a2⟩, ⟨sigs, sg, gs, s _ _ b1 (by simpa using Ne.symm ha), b2, s _ _ b3 (n b3 (by simp)), b4⟩, hw, hk⟩
noncomputable def newVals (vals : List (Int × MV)) (k : Nat) (v new : List Nat) : List (Int × MV) := if new = v then vals else putI k (V new) vals
noncomputable def newWr (wr : List (Int × MV)) (k : Nat) (v new : List Nat) : List (Int × MV) := if new = v then wr else putI k (.bool true) wr
theorem getI_put {k : Int} {x : MV} : ∀ {l : List (Int × MV)}, getI k (putI k x l) = some x
  | [] => if_pos rfl
  | (j, u) :: r => by
    rw [putI_cons]
    by_cases h : j = k
    · rw [if_pos h]; exact if_pos rfl
    · rw [if_neg h, getI_cons, if_neg h]; exact getI_put
theorem getI_put_ne {k j : Int} {x : MV} (h : j ≠ k) : ∀ {l : List (Int × MV)}, getI j (putI k x l) = getI j l
  | [] => if_neg (Ne.symm h)
  | (i, u) :: r => by
    rw [putI_cons]
    by_cases e : i = k
    · rw [if_pos e, getI_cons, getI_cons, if_neg (Ne.symm h), if_neg (fun z => h (z.symm.trans e))]
    · rw [if_neg e, getI_cons, getI_cons, getI_put_ne h]
theorem sigVal_new {vals : List (Int × MV)} {k w : Nat} {v new : List Nat} (h : SigVal vals k w v) : SigVal (newVals vals k v new) k w new := by
  unfold newVals
  by_cases e : new = v
  · rw [if_pos e, e]; exact h
  · rw [if_neg e]; exact .inl getI_put
theorem sigVal_other {vals : List (Int × MV)} {k j w : Nat} {u v new : List Nat} (h : SigVal vals j w u) (hj : j ≠ k) : SigVal (newVals vals k v new) j w u := by
  unfold newVals
  by_cases e : new = v
  · rw [if_pos e]; exact h
  · rw [if_neg e]; unfold SigVal; rw [getI_put_ne (by walk_at "om")]; exact h
theorem putI_len {k : Int} {x : MV} : ∀ {l : List (Int × MV)}, (putI k x l).length ≤ l.length + 1
  | [] => Nat.le_refl _
  | (j, u) :: r => by
    rw [putI_cons]
    split
    · simp
    · have := @putI_len k x r; simp; lia
theorem store_rows_sig {rows cx st dv sl : Addr} {k w ww : Nat} {lo : Int} {fs : List (Nat × MV)} {vals : List (Int × MV)} {cs v : List Nat} (hr : 7 ≤ r) (h0 : σ rows = some (.list [.tup [.sym 32, .int k, .none, .int lo, .int w, .int 0]]))
    (h1 : σ cx = some (.inst A.c_FunctionContext fs)) (h2 : fs.lookup 33 = some (.ref st)) (hS : SigAt σ st dv sl k ww) (hd : σ dv = some (.dI vals)) (hv : SigVal vals k ww v) (okv : Ok v) (hlv : v.length ≤ 20) (hn : vals.length ≤ 1000)
    (ok : Ok cs) (hl : cs.length ≤ 20) (hw : w ≤ 20) (hb : -100 ≤ lo ∧ lo ≤ 100)
    (q : ∀ a σ', Same [dv] σ σ' → σ' dv = some (.dI (newVals vals k v (putC v lo (sliceC cs 0 w)))) → σ' a = some (.list (if putC v lo (sliceC cs 0 w) = v then [] else [.int k])) → Q (.ref a) σ') : CS1 c.toCx r (.ref A.f_store_rows) [.ref rows, V cs, .ref cx] σ Q E t := by
  refine cal_store_rows (by walk_at "om") ?_
  walk_at "st"
  intro d hd0
  walk_at "mini"
  have d0 := ne_new h0 hd0
  have d1 := ne_new h1 hd0
  have d3 := ne_new hd hd0
  have s1 : Same [] σ (σ.put d (.dI [])) := Same.new hd0
  walk_at "st"
  refine for_rule (by walk_at "om") ?_
  walk_at "mini"
  refine ⟨_, (put_ne d0).trans h0, ?_⟩
  refine forK_unr ⟨(put_ne d0).trans h0, ?_⟩
  refine ⟨by lia, ?_⟩
  show manyP _ _ _ _
  walk_at "mini"
  walk_at "st"
  refine slice_vec_s w (by walk_at "om") ok hl hw rfl (by walk_at "om") ?_
  walk_at "st"
  walk_at "st"
  refine attr_i ((put_ne d1).trans h1) (by rfl) h2 ?_
  walk_at "mini"
  have hS1 := hS.up s1
  obtain ⟨⟨gs, a1, a2, a3, a4, a5⟩, _⟩ := hS1
  refine meth_i a1 (by rfl) a5 ?_
  walk_at "mini"
  refine set_bits_s v (by walk_at "om") (hS.up s1) ((put_ne d3).trans hd) hv okv (sliceC_ok ok _ _) hlv (by simp [sliceC, gen_len]; exact hw) hb hn (fun he => ?_) (fun he => ?_)
  · walk_at "mini"
    refine ⟨(put_ne d0).trans h0, ?_⟩
    walk_at "mini"
    walk_at "st"
    refine sorted_s (by walk_at "om") put_eq (by decide) fun a ns ha hp _ => ?_
    have : ns = [] := by simpa using hp
    subst this
    walk_at "mini"
    have hfa : dv ≠ a := ne_new ((put_ne d3).trans hd) ha
    refine q a _ (((Same.new hd0).trans (Same.new ha))) ?_ ?_
    · unfold newVals; rw [if_pos he, put_ne hfa, put_ne d3]; exact hd
    · rw [if_pos he]; exact put_eq
  · walk_at "mini"
    walk_at "st"
    refine seti_d (by rw [put_ne (Ne.symm d3)]; exact put_eq) (Nat.le_of_ble_eq_true rfl) ?_
    walk_at "mini"
    have hrv : rows ≠ dv := ne_of h0 hd (by simp)
    refine ⟨(put_ne d0).trans ((put_ne hrv).trans ((put_ne d0).trans h0)), ?_⟩
    walk_at "mini"
    walk_at "st"
    refine sorted_s (by walk_at "om") put_eq (Nat.le_of_ble_eq_true rfl) fun a ns ha hp _ => ?_
    have : ns = [(k : Int)] := List.perm_singleton.mp hp
    subst this
    walk_at "mini"
    have hfa : dv ≠ a := ne_new ((put_ne d3).trans put_eq) ha
    refine q a _ (fun b o e hb => ?_) ?_ ?_
    · have hbd := ne_new e hd0
      have hbv : b ≠ dv := by simpa using hb
      have h3 : (((σ.put d (.dI [])).put dv (.dI (putI (↑k) (V (putC v lo (sliceC cs 0 w))) vals))).put d (.dI (putI (↑k) (.bool true) []))) b = some o := by rw [put_ne hbd, put_ne hbv, put_ne hbd]; exact e
      rw [put_ne (ne_new h3 ha)]; exact h3
    · unfold newVals; rw [if_neg he, put_ne hfa, put_ne d3]; exact put_eq
    · rw [if_neg he]; exact put_eq
end
section
variable {c : CX} {r : Nat} {σ : Hp} {Q E : MV → Hp → Prop} {t : Tk Q E}
def AfterSig (cx st dv dw sl : Addr) (k : Nat) (w : Nat) (Q : MV → Hp → Prop) (x : MV) (σ : Hp) : Prop :=
  ∃ cs v fs vals wr, x = V cs ∧ Ok cs ∧ Ok v ∧ cs.length = w ∧ v.length = w ∧ σ cx = some (.inst A.c_FunctionContext fs) ∧ fs.lookup 33 = some (.ref st) ∧ fs.lookup 62 = some (.ref dw) ∧ SigAt σ st dv sl k w ∧ σ dv = some (.dI vals) ∧ SigVal vals k w v ∧ vals.length ≤ 900 ∧
    σ dw = some (.dI wr) ∧ wr.length ≤ 900 ∧ dw ≠ dv ∧
    ∀ σ', Same [dv, dw] σ σ' → σ' dv = some (.dI (newVals vals k v cs)) → σ' dw = some (.dI (newWr wr k v cs)) → Q .none σ'
theorem run_set_sig {a tg e : MV} {k w : Nat} {cx st dv dw sl : Addr} (hr : 9 ≤ r) (hw0 : 0 < w) (q : CS1 c.toCx (r - 1) (.ref A.f_evaluate) [e, .ref cx] σ (AfterSig cx st dv dw sl k w Q) E {}) :
    CS1 c.toCx r (.ref A.f_run_set) [.tup [a, .tup [tg, .int w, .tup [.tup [.sym 32, .int w, .int k, .none, .tup [.sym 5, .int 0]]]], e, .none], .ref cx] σ Q E t := by
  refine cal_run_set (by walk_at "om") ?_
  walk_at "st"
  walk_at "st"
  refine CS1.mono q (fun x σ1 hv => ?_) (fun _ _ z => z)
  obtain ⟨cs, v, fs, vals, wr, rfl, ok, okv, hlc, hlv, h1, h2, h2', hS, hd, hv, hn, hdw, hnw, hne, q⟩ := hv
  walk_at "st"
  refine for_rule (by walk_at "om") ?_
  walk_at "mini"
  have hS' := hS
  obtain ⟨⟨gs, a1, a2, a3, a4, a5⟩, ⟨sigs, s, hs, b1, b2, b3, b4, b5, b6⟩, hw, hk⟩ := hS'
  refine resolve_s (hw := w) (by walk_at "om") (fun σ' Q' E' t' hsame q' => holder_sig (by walk_at "om") (hsame _ _ h1 (by simp)) h2 (hsame _ _ a1 (by simp)) a3 (hsame _ _ b1 (by simp)) b2 (hsame _ _ b3 (by simp)) b5 hk q') fun a σ2 ha hsame hrow => ?_
  walk_at "mini"
  rw [if_neg (by walk_at "om"), Int.sub_self] at hrow
  refine store_rows_sig (by walk_at "om") hrow (hsame _ _ h1 (by simp)) h2 (hS.up hsame) (hsame _ _ hd (by simp)) hv okv (by walk_at "om") (by walk_at "om") ok (by walk_at "om") (by walk_at "om") (by walk_at "om") fun b σ3 hs3 hd3 hb => ?_
  have e1 : putC v 0 (sliceC cs 0 w) = cs := by rw [sliceC_all hlc, putC_all (by walk_at "om")]
  rw [e1] at hb hd3
  walk_at "mini"
  refine ⟨_, hb, ?_⟩
  have g1 : σ3 cx = some (.inst A.c_FunctionContext fs) := hs3 _ _ (hsame _ _ h1 (by simp)) (by
    intro z
    have : cx = dv := by simpa using z
    rw [this, hd] at h1; cases h1)
  have gw : σ3 dw = some (.dI wr) := hs3 _ _ (hsame _ _ hdw (by simp)) (by simpa using hne)
  by_cases hc : cs = v
  · rw [if_pos hc] at hb ⊢
    refine forK_unr ⟨hb, ?_⟩
    walk_at "mini"
    walk_at "sts"
    refine q σ3 ((hsame.mono (by simp)).trans (hs3.mono (by simp))) hd3 ?_
    unfold newWr; rw [if_pos hc]; exact gw
  · rw [if_neg hc] at hb ⊢
    refine forK_unr ⟨hb, ?_⟩
    show setP _ _ _ _
    walk_at "mini"
    walk_at "st"
    refine attr_i g1 (by rfl) h2' ?_
    walk_at "mini"
    refine seti_d gw (by walk_at "om") ?_
    walk_at "mini"
    have hbw : b ≠ dw := ne_of hb gw (by simp)
    refine ⟨(put_ne hbw).trans hb, ?_⟩
    walk_at "mini"
    walk_at "sts"
    refine q _ (((hsame.mono (by simp)).trans (hs3.mono (by simp))).trans ((Same.put).mono (by simp))) ?_ ?_
    · rw [put_ne (Ne.symm hne)]; exact hd3
    · unfold newWr; rw [if_neg hc]; exact put_eq
theorem ev_sig {w : MV} {k ww : Nat} {cx st dv sl : Addr} {fs : List (Nat × MV)} {vals : List (Int × MV)} {v : List Nat} (hr : 5 ≤ r) (h1 : σ cx = some (.inst A.c_FunctionContext fs)) (h2 : fs.lookup 33 = some (.ref st)) (hS : SigAt σ st dv sl k ww) (hd : σ dv = some (.dI vals)) (hv : SigVal vals k ww v)
    (q : Q (V v) σ) : CS1 c.toCx r (.ref A.f_evaluate) [.tup [.sym 32, w, .int k], .ref cx] σ Q E t := by
  refine cal_evaluate (by walk_at "om") ?_
  walk_at "sts"
  refine attr_i h1 (by rfl) h2 ?_
  walk_at "mini"
  obtain ⟨⟨gs, a1, a2, a3, a4, a5⟩, _⟩ := id hS
  refine meth_i a1 (by rfl) a4 ?_
  walk_at "mini"
  exact get_s v (by walk_at "om") hS hd hv q
/-! calls of a routine -/
noncomputable def dsgOk (σ : Hp) (d rl : Addr) : Prop := ∃ fs, σ d = some (.inst A.c_Design fs) ∧ fs.lookup 113 = some (.ref rl) ∧ fs.lookup 64 = none
theorem routine_s {d rl rt : Addr} {n : Nat} {rs : List MV} {fs : List (Nat × MV)} (hr : 1 ≤ r) (hd : dsgOk σ d rl) (hl : σ rl = some (.list rs)) (hn : rs[n]? = some (.ref rt)) (hi : n ≤ 1000) (h : σ rt = some (.inst A.c_Routine fs)) (hm : fs.lookup 108 = some (.bool true)) (q : Q (.ref rt) σ) :
    CS1 c.toCx r (.ref A.f_Design_routine) [.ref d, .int n] σ Q E t := by
  obtain ⟨gs, d1, d2, d3⟩ := hd
  refine cal_Design_routine (by walk_at "om") ?_
  walk_at "st"
  refine attr_i d1 (by rfl) d2 ?_
  walk_at "mini"
  refine item_l n hl rfl (by walk_at "om") hn ?_
  walk_at "mini"
  walk_at "st"
  refine attr_i h (by rfl) hm ?_
  walk_at "mini"
  walk_at "sts"
  exact q
noncomputable def slotsX (ws : List Nat) : List MV := ws.map fun w => V (gen w fun _ => 3)
theorem unrC_slots {loc : Loc} {st : Hp → Prop} {Q : MV → Hp → Prop} (hr : 2 ≤ r) (hl : loc.length = 11) : ∀ (ws : List Nat) (acc : List MV) (s : Hp), st s → acc.length + ws.length ≤ 100 → (∀ w ∈ ws, w ≤ 20) → newP (.list (acc ++ slotsX ws)) s Q →
    unrC Tb (CSf c.toCx) r (.call (.con (.ref A.f_all_x)) [.loc 10]) [10] true [] loc Q st (ws.map fun (w : Nat) => MV.int (w : Int)) acc s
  | [], acc, s, hs, hn, hw, q => by
    simp only [slotsX, List.map_nil, List.append_nil] at q
    exact ⟨⟨hs, by unfold lineL; simp at hn; lia⟩, q⟩
  | w :: ws, acc, s, hs, hn, hw, q => by
    refine ⟨⟨hs, by unfold lineL; simp at hn; lia⟩, fun i hi => by simp at hi; lia, ?_⟩
    walk_at "mini"
    rw [List.getElem?_set, if_pos rfl, if_pos (by walk_at "om")]
    walk_at "mini"
    refine all_x_s w (by walk_at "om") rfl (by have := hw w (.head _); lia) ?_
    refine unrC_slots hr hl ws _ s hs (by simp at hn ⊢; lia) (fun w' h' => hw w' (.tail _ h')) ?_
    simp only [slotsX, List.map_cons, List.append_assoc, List.cons_append, List.nil_append] at q ⊢
    exact q
theorem new_frame0 {cx rt sl pl ar : Addr} {ws : List Nat} {fs : List (Nat × MV)} {as : List MV} (hr : 4 ≤ r) (h : σ rt = some (.inst A.c_Routine fs)) (h1 : fs.lookup 67 = some (.ref sl)) (h2 : fs.lookup 68 = some (.ref pl)) (h3 : σ sl = some (.list (ws.map fun (w : Nat) => MV.int (w : Int)))) (h4 : σ pl = some (.list []))
    (hw : ∀ w ∈ ws, w ≤ 20) (hn : ws.length ≤ 50) (q : ∀ a, σ a = none → Q (.ref a) (σ.put a (.list (slotsX ws)))) : CS1 c.toCx r (.ref A.f_FunctionContext_new_frame) [.ref cx, .ref rt, .ref ar] σ Q E t := by
  refine cal_FunctionContext_new_frame (by walk_at "om") ?_
  walk_at "st"
  refine comp_rule (by walk_at "om") ?_
  walk_at "mini"
  refine attr_i h (by rfl) h1 ?_
  walk_at "mini"
  refine ⟨_, h3, ?_⟩
  refine compK_unr (unrC_slots (by walk_at "om") rfl ws [] σ h3 (by simp; lia) hw ?_)
  intro a ha
  walk_at "mini"
  walk_at "st"
  walk_at "st"
  refine for_rule (by walk_at "om") ?_
  walk_at "mini"
  refine attr_i ((put_ne (ne_new h ha)).trans h) (by rfl) h2 ?_
  walk_at "mini"
  refine ⟨_, (put_ne (ne_new h4 ha)).trans h4, ?_⟩
  refine forK_unr ⟨(put_ne (ne_new h4 ha)).trans h4, ?_⟩
  walk_at "mini"
  walk_at "sts"
  exact q a ha
end
section
variable {c : CX} {r : Nat} {σ : Hp} {Q E : MV → Hp → Prop} {t : Tk Q E}
theorem len_s {a : Addr} {xs : List MV} (hs : σ a = some (.list xs)) (hl : xs.length ≤ 1000) (q : Q (.int xs.length) σ) : CS1 c.toCx r (.builtin "len") [.ref a] σ Q E t := len_spec hs (by unfold lineL; lia) q
theorem call_deep {cx st fr d dw : Addr} {fuel depth : Int} {n a : MV} (hr : 3 ≤ r) (h : σ cx = some (fcO st fr d dw fuel depth)) (hd : 24 ≤ depth)
    (q : ∀ x, σ x = none → E (.ref x) (σ.put x (excO A.c_LimitReached (.sym 63) (.int (-1)) (.sym 122)))) : CS1 c.toCx r (.ref A.f_FunctionContext_call) [.ref cx, n, a] σ Q E t := by
  refine cal_FunctionContext_call (by walk_at "om") ?_
  walk_at "st"
  refine attr_i h (by rfl) (by rfl) ?_
  walk_at "mini"
  rw [decide_eq_true hd]
  walk_at "mini"
  walk_at "st"
  exact ⟨by lia, limit_s (by walk_at "om") fun x hx => ⟨x, _, _, rfl, put_eq, by rfl, q x hx⟩⟩
theorem call_s {cx st fr d dw rl rt ar : Addr} {fuel depth : Int} {n : Nat} {rs : List MV} {fs : List (Nat × MV)} {B : MV} (hr : 4 ≤ r) (h : σ cx = some (fcO st fr d dw fuel depth)) (hdp : depth < 24)
    (hd : dsgOk σ d rl) (hl : σ rl = some (.list rs)) (hn : rs[n]? = some (.ref rt)) (hi : n ≤ 1000) (hrt : σ rt = some (.inst A.c_Routine fs)) (hm : fs.lookup 108 = some (.bool true)) (hB : fs.lookup 66 = some B)
    (q : CS1 c.toCx (r - 1) (.ref A.f_FunctionContext_new_frame) [.ref cx, .ref rt, .ref ar] σ (fun v σ1 => ∃ fr', v = .ref fr' ∧ σ1 cx = some (fcO st fr d dw fuel depth) ∧ σ1 rt = some (.inst A.c_Routine fs) ∧
      CS1 c.toCx (r - 1) (.ref A.f_run_statement) [B, .ref cx] (σ1.put cx (fcO st fr' d dw fuel (depth + 1)))
        (fun _ σ2 => ∃ fuel' xs v0, σ2 cx = some (fcO st fr' d dw fuel' (depth + 1)) ∧ σ2 fr' = some (.list (v0 :: xs)) ∧ Q v0 (σ2.put cx (fcO st fr d dw fuel' depth)))
        (fun x σ2 => ∃ fuel' e C fs', x = .ref e ∧ σ2 e = some (.exc C fs') ∧ σ2 cx = some (fcO st fr' d dw fuel' (depth + 1)) ∧ E x (σ2.put cx (fcO st fr d dw fuel' depth))) {}) E {}) :
    CS1 c.toCx r (.ref A.f_FunctionContext_call) [.ref cx, .int n, .ref ar] σ Q E t := by
  refine cal_FunctionContext_call (by walk_at "om") ?_
  walk_at "st"
  refine attr_i h (by rfl) (by rfl) ?_
  walk_at "mini"
  rw [decide_eq_false (by walk_at "om")]
  walk_at "mini"
  walk_at "st"
  refine attr_i h (by rfl) (by rfl) ?_
  walk_at "mini"
  obtain ⟨gs, d1, d2, d3⟩ := id hd
  refine meth_i d1 (by rfl) d3 ?_
  walk_at "mini"
  refine routine_s (by walk_at "om") hd hl hn hi hrt hm ?_
  walk_at "mini"
  walk_at "st"
  refine attr_i h (by rfl) (by rfl) ?_
  walk_at "mini"
  walk_at "st"
  refine meth_i h (by rfl) (by rfl) ?_
  walk_at "mini"
  refine CS1.mono q (fun v σ1 hv => ?_) (fun _ _ z => z)
  obtain ⟨fr', rfl, h1, hrt1, q⟩ := hv
  walk_at "mini"
  refine seta_i h1 (by rfl) (Nat.le_of_ble_eq_true rfl) ?_
  walk_at "mini"
  walk_at "st"
  refine attr_i put_eq (by rfl) (by rfl) ?_
  walk_at "mini"
  refine seta_i put_eq (by rfl) (Nat.le_of_ble_eq_true rfl) ?_
  rw [put_put]
  walk_at "mini"
  walk_at "st"
  refine tryF_rule ?_
  walk_at "st"
  have hne : rt ≠ cx := ne_of hrt1 h1 (by unfold fcO; simp [A.c_Routine, A.c_FunctionContext])
  refine attr_i ((put_ne hne).trans hrt1) (by rfl) hB ?_
  walk_at "mini"
  refine CS1.mono q (fun v σ2 hv => ?_) (fun x σ2 hv => ?_)
  · obtain ⟨fuel', xs, v0, g1, g2, q⟩ := hv
    walk_at "mini"
    walk_at "st"
    refine attr_i g1 (by rfl) (by rfl) ?_
    walk_at "mini"
    refine item_l 0 g2 rfl (by decide) rfl ?_
    walk_at "mini"
    walk_at "st"
    refine seta_i g1 (by rfl) (Nat.le_of_ble_eq_true rfl) ?_
    walk_at "mini"
    walk_at "st"
    refine attr_i put_eq (by rfl) (by rfl) ?_
    walk_at "mini"
    refine seta_i put_eq (by rfl) (Nat.le_of_ble_eq_true rfl) ?_
    rw [put_put, Int.add_sub_cancel]
    walk_at "mini"
    walk_at "sts"
    exact q
  · obtain ⟨fuel', e, C, fs', rfl, g0, g1, q⟩ := hv
    walk_at "mini"
    walk_at "st"
    refine seta_i g1 (by rfl) (Nat.le_of_ble_eq_true rfl) ?_
    walk_at "mini"
    walk_at "st"
    refine attr_i put_eq (by rfl) (by rfl) ?_
    walk_at "mini"
    refine seta_i put_eq (by rfl) (Nat.le_of_ble_eq_true rfl) ?_
    rw [put_put, Int.add_sub_cancel]
    walk_at "mini"
    have hec : e ≠ cx := ne_of g0 g1 (by unfold fcO; simp)
    exact ⟨⟨e, C, fs', rfl, (put_ne hec).trans g0⟩, q⟩
theorem ev_call0 {w : MV} {n : Int} {cx st fr d dw : Addr} {fuel depth : Int} (hr : 2 ≤ r) (h : σ cx = some (fcO st fr d dw fuel depth)) (q : ∀ a, σ a = none → CS1 c.toCx (r - 1) (.ref A.f_FunctionContext_call) [.ref cx, .int n, .ref a] (σ.put a (.list [])) Q E {}) :
    CS1 c.toCx r (.ref A.f_evaluate) [.tup [.sym 45, w, .int n, .tup []], .ref cx] σ Q E t := by
  refine cal_evaluate (by walk_at "om") ?_
  walk_at "sts"
  refine meth_i h (by rfl) (by rfl) ?_
  walk_at "mini"
  refine comp_rule (by walk_at "om") ?_
  walk_at "mini"
  refine compK_unr ⟨⟨trivial, by decide⟩, fun a ha => ?_⟩
  walk_at "mini"
  exact q a ha
theorem new_frame1 {cx st fr d dw dv sg rt sl pl ar : Addr} {fuel depth : Int} {ws : List Nat} {fs : List (Nat × MV)} {k w : Nat} {sgn : Bool} {cs v : List Nat} {vals wr : List (Int × MV)} (hr : 8 ≤ r) (hcx : σ cx = some (fcO st fr d dw fuel depth)) (h : σ rt = some (.inst A.c_Routine fs)) (h1 : fs.lookup 67 = some (.ref sl)) (h2 : fs.lookup 68 = some (.ref pl))
    (h3 : σ sl = some (.list (ws.map fun (w : Nat) => MV.int (w : Int)))) (h4 : σ pl = some (.list [.tup [.sym 69, .int w, .bool sgn, .sym 32, .int k]])) (har : σ ar = some (.list [V cs])) (hw : ∀ w ∈ ws, w ≤ 20) (hn : ws.length ≤ 50)
    (hS : SigAt σ st dv sg k w) (hd : σ dv = some (.dI vals)) (hv : SigVal vals k w v) (okv : Ok v) (hlv : v.length = w) (hnv : vals.length ≤ 900) (hdw : σ dw = some (.dI wr)) (hnw : wr.length ≤ 900) (hne : dw ≠ dv) (ok : Ok cs) (hl0 : 0 < cs.length) (hl : cs.length ≤ 20) (hw0 : w ≤ 20)
    (q : ∀ a σ', σ a = none → Same [dv, dw] σ σ' → σ' dv = some (.dI (newVals vals k v (extC cs w sgn))) → σ' dw = some (.dI (newWr wr k v (extC cs w sgn))) → σ' a = some (.list (slotsX ws)) → Q (.ref a) σ') :
    CS1 c.toCx r (.ref A.f_FunctionContext_new_frame) [.ref cx, .ref rt, .ref ar] σ Q E t := by
  refine cal_FunctionContext_new_frame (by walk_at "om") ?_
  walk_at "st"
  refine comp_rule (by walk_at "om") ?_
  walk_at "mini"
  refine attr_i h (by rfl) h1 ?_
  walk_at "mini"
  refine ⟨_, h3, ?_⟩
  refine compK_unr (unrC_slots (by walk_at "om") rfl ws [] σ h3 (by simp; lia) hw ?_)
  intro a ha
  walk_at "mini"
  have s1 : Same [] σ (σ.put a (.list (slotsX ws))) := Same.new ha
  generalize hσ1 : σ.put a (.list (slotsX ws)) = σ1 at *
  have ea : σ1 a = some (.list (slotsX ws)) := by rw [← hσ1]; exact put_eq
  have up : ∀ {b o}, σ b = some o → σ1 b = some o := fun {b o} e => s1 _ _ e (by simp)
  walk_at "st"
  walk_at "st"
  refine for_rule (by walk_at "om") ?_
  walk_at "mini"
  refine attr_i (up h) (by rfl) h2 ?_
  walk_at "mini"
  refine ⟨_, up h4, ?_⟩
  refine forK_unr ⟨up h4, by lia, ?_⟩
  show manyP _ _ _ _
  walk_at "mini"
  walk_at "st"
  refine len_s (up har) (by simp) ?_
  walk_at "mini"
  rw [if_pos (by simp)]
  walk_at "st"
  walk_at "st"
  refine attr_i (up hcx) (by rfl) (by rfl) ?_
  walk_at "mini"
  obtain ⟨⟨gs, a1, a2, a3, a4, a5⟩, _⟩ := id (hS.up s1)
  refine meth_i a1 (by rfl) a5 ?_
  walk_at "mini"
  refine item_l 0 (up har) rfl (by decide) rfl ?_
  walk_at "mini"
  refine extend_s w sgn (by walk_at "om") ok hl0 hl rfl hw0 ?_
  walk_at "mini"
  have e1 : putC v 0 (extC cs w sgn) = extC cs w sgn := putC_all (by rw [extC_len, hlv])
  refine set_bits_s v (by walk_at "om") (hS.up s1) (up hd) hv okv (extC_ok ok) (by walk_at "om") (by rw [extC_len]; exact hw0) (by walk_at "om") (by walk_at "om") (fun he => ?_) (fun he => ?_)
  · rw [e1] at he
    walk_at "mini"
    walk_at "sts"
    refine ⟨up h4, ?_⟩
    walk_at "mini"
    walk_at "sts"
    refine q a σ1 ha (s1.mono (by simp)) ?_ ?_ ea
    · unfold newVals; rw [if_pos he]; exact up hd
    · unfold newWr; rw [if_pos he]; exact up hdw
  · rw [e1] at he
    rw [e1]
    have ncx : cx ≠ dv := ne_of (up hcx) (up hd) (by unfold fcO; simp)
    have npl : pl ≠ dv := ne_of (up h4) (up hd) (by simp)
    have npw : pl ≠ dw := ne_of (up h4) (up hdw) (by simp)
    have nav : a ≠ dv := ne_of ea (up hd) (by simp)
    have naw : a ≠ dw := ne_of ea (up hdw) (by simp)
    walk_at "mini"
    walk_at "st"
    refine attr_i ((put_ne ncx).trans (up hcx)) (by rfl) (by rfl) ?_
    walk_at "mini"
    refine seti_d ((put_ne hne).trans (up hdw)) (by walk_at "om") ?_
    walk_at "mini"
    walk_at "sts"
    refine ⟨(put_ne npw).trans ((put_ne npl).trans (up h4)), ?_⟩
    walk_at "mini"
    walk_at "sts"
    refine q a _ ha (((s1.mono (by simp)).trans (Same.put.mono (by simp))).trans (Same.put.mono (by simp))) ?_ ?_ ?_
    · unfold newVals; rw [if_neg he, put_ne (Ne.symm hne)]; exact put_eq
    · unfold newWr; rw [if_neg he]; exact put_eq
    · rw [put_ne naw, put_ne nav]; exact ea
end
noncomputable def numL (ns : List Nat) : List MV := ns.map fun (n : Nat) => MV.int (n : Int)
theorem ints_app (a b : List Nat) : numL (a ++ b) = numL a ++ numL b := by simp [numL]
theorem ints_len (a : List Nat) : (numL a).length = a.length := by simp [numL]
theorem fmodN (m k : Nat) (hk : 0 < k) : (m : Int).fmod (k : Int) = ((m % k : Nat) : Int) := by
  rw [Int.fmod_eq_emod_of_nonneg _ (by walk_at "om")]; simp
theorem fdivN (m k : Nat) : (m : Int).fdiv (k : Int) = ((m / k : Nat) : Int) := by
  rw [Int.fdiv_eq_ediv_of_nonneg _ (by walk_at "om")]; simp
def RowOk (σ : Hp) (a : Addr) : Prop := ∃ ns : List Nat, (∀ n ∈ ns, n < 1024) ∧ ns.length ≤ 160 ∧ σ a = some (.list (numL ns))
section
variable {c : CX} {r : Nat} {σ : Hp} {Q E : MV → Hp → Prop} {t : Tk Q E}
theorem app_s {a : Addr} {xs : List MV} {x : MV} (hs : σ a = some (.list xs)) (hl : xs.length ≤ 10000) (q : Q .none (σ.put a (.list (xs ++ [x])))) : CS1 c.toCx r (.builtin "list.append") [.ref a, x] σ Q E t := append_spec hs (by unfold lineL; lia) q
theorem rev_s {a : Addr} {xs : List MV} (hs : σ a = some (.list xs)) (hl : xs.length ≤ 10000) (q : Q .none (σ.put a (.list xs.reverse))) : CS1 c.toCx r (.builtin "list.reverse") [.ref a] σ Q E t := reverse_spec hs (by unfold lineL; lia) q
theorem app_num {a : Addr} {ns : List Nat} {m : Nat} (hs : σ a = some (.list (numL ns))) (hl : ns.length ≤ 10000) (q : Q .none (σ.put a (.list (numL (ns ++ [m]))))) : CS1 c.toCx r (.builtin "list.append") [.ref a, .int (m : Int)] σ Q E t :=
  app_s hs (by rw [ints_len]; exact hl) (by rw [ints_app] at q; exact q)
theorem isDatas_ints (ns : List Nat) : isDatas (numL ns) = true := by
  unfold isDatas
  induction ns with
  | nil => rfl
  | cons n r ih => exact ih
theorem beqs_nil (ns : List Nat) : beqs (numL ns) [] = ns.isEmpty := by
  cases ns <;> rfl
theorem next_s {row : Addr} (hr : 1 ≤ r) (h : RowOk σ row) (q : ∀ (n : Nat) σ', n < 1024 → Same [row] σ σ' → RowOk σ' row → Q (.int (n : Int)) σ') : CS1 c.toCx r (.ref A.f__law_next) [.ref row] σ Q E t := by
  obtain ⟨ns, hb, hl, hs⟩ := h
  refine cal__law_next (by walk_at "om") ?_
  walk_at "st"
  intro a ha
  have hne := ne_new hs ha
  refine ⟨numL ns, [], (put_ne hne).trans hs, put_eq, ⟨isDatas_ints ns, rfl⟩, ?_⟩
  rw [beqs_nil]
  have s1 : Same [row] σ (σ.put a (.list [])) := Same.new ha
  rcases List.eq_nil_or_concat ns with rfl | ⟨L, b, rfl⟩
  · walk_at "mini"
    simp only [List.isEmpty_nil, Bool.not_true]
    walk_at "mini"
    exact q 0 _ (by decide) s1 ⟨[], by simp, by simp, (put_ne hne).trans hs⟩
  · have e : (L ++ [b]).isEmpty = false := by simp
    rw [List.concat_eq_append] at *
    rw [e]
    walk_at "mini"
    refine meth_pop ((put_ne hne).trans hs) ?_
    walk_at "mini"
    have hs2 : (σ.put a (.list [])) row = some (.list (numL L ++ [MV.int (b : Int)])) := by rw [put_ne hne, hs, ints_app]; rfl
    refine pop_spec hs2 (by rw [ints_len]; unfold lineL; simp at hl; lia) ?_
    refine q b _ (hb b (by simp)) (s1.trans Same.put) ⟨L, fun n hn => hb n (by simp [hn]), by simp at hl; lia, put_eq⟩
theorem row_ok_same {F : List Addr} {σ' : Hp} {row : Addr} (h : RowOk σ row) (s : Same F σ σ') (hn : row ∉ F) : RowOk σ' row := by
  obtain ⟨ns, a, b, e⟩ := h
  exact ⟨ns, a, b, s _ _ e hn⟩
theorem bits_s {row : Addr} {w : Int} (wd : Nat) (hr : 3 ≤ r) (hw : w = wd) (hwd : wd ≤ 20) (h : RowOk σ row)
    (q : ∀ a (cs : List Nat) σ', σ a = none → cs.length = wd → Ok cs → Same [row] σ σ' → RowOk σ' row → σ' a = some (.list (numL cs)) → Q (.ref a) σ') : CS1 c.toCx r (.ref A.f__law_bits) [.ref row, .int w] σ Q E t := by
  subst hw
  refine cal__law_bits (by walk_at "om") ?_
  walk_at "st"
  intro a ha
  walk_at "mini"
  have hra : row ≠ a := fun z => by obtain ⟨_, _, _, e⟩ := h; rw [z, ha] at e; cases e
  walk_at "st"
  refine for_rule (by walk_at "om") ?_
  walk_at "mini"
  refine ⟨⟨by decide, by decide⟩, ?_⟩
  rw [show ((wd : Int) + 4) = ((wd + 4 : Nat) : Int) by lia, show (5 : Int) = ((5 : Nat) : Int) from rfl, fdivN]
  have hT : (wd + 4) / 5 ≤ 5 := by lia
  refine ⟨⟨by lia, by lia⟩, ?_⟩
  have hlen : ((List.range (((wd + 4) / 5 : Nat) : Int).toNat).map fun (i : Nat) => MV.int (i : Int)).length = (wd + 4) / 5 := by simp; lia
  refine forK_ix (fun i l s => ∃ bs l3 l4 l5, l = [some (.ref row), some (.int wd), some (.ref a), l3, l4, l5] ∧ Same [row] σ s ∧ RowOk s row ∧ s a = some (.list (numL bs)) ∧ Ok bs ∧ bs.length = 5 * i) ⟨[], _, _, _, rfl, Same.new ha, row_ok_same h (Same.new (F := []) ha) (by simp), put_eq, (fun _ h => by cases h), rfl⟩ (fun _ _ _ _ => trivial) ?_ ?_
  · rintro i x l s hx ⟨bs, l3, l4, l5, rfl, hs, hrow, hsa, hok, hbl⟩
    have hi : i < (wd + 4) / 5 := by have := (List.getElem?_eq_some_iff.mp hx).1; rw [hlen] at this; exact this
    show setP _ _ _ _
    walk_at "mini"
    walk_at "st"
    refine next_s (by walk_at "om") hrow fun n s1 hn hs1 hrow1 => ?_
    walk_at "mini"
    walk_at "st"
    refine for_rule (by walk_at "om") ?_
    walk_at "mini"
    refine ⟨⟨by decide, by decide⟩, ?_⟩
    have hsa1 : s1 a = some (.list (numL bs)) := hs1 _ _ hsa (by simpa using Ne.symm hra)
    refine forK_ix (fun j l s' => ∃ bs' l3 l5 m, l = [some (.ref row), some (.int wd), some (.ref a), l3, some (.int ((m : Nat) : Int)), l5] ∧ Same [row] σ s' ∧ RowOk s' row ∧ s' a = some (.list (numL bs')) ∧ Ok bs' ∧ bs'.length = 5 * i + j) ⟨bs, _, _, n, rfl, hs.trans hs1, hrow1, hsa1, hok, hbl⟩ (fun _ _ _ _ => trivial) ?_ ?_
    · rintro j y l s2 hy ⟨bs', k3, k5, m, rfl, hs2, hrow2, hsa2, hok2, hbl2⟩
      have hj : j < 5 := by have := (List.getElem?_eq_some_iff.mp hy).1; simpa using this
      show setP _ _ _ _
      walk_at "mini"
      walk_at "st"
      refine meth_app hsa2 ?_
      walk_at "mini"
      rw [show (4 : Int) = ((4 : Nat) : Int) from rfl, fmodN m 4 (by decide)]
      refine ⟨by decide, ?_⟩
      refine app_num hsa2 (by walk_at "om") ?_
      walk_at "mini"
      walk_at "st"
      refine ⟨⟨by decide, by decide⟩, ?_⟩
      rw [show (4 : Int) = ((4 : Nat) : Int) from rfl, fdivN]
      walk_at "mini"
      refine ⟨bs' ++ [m % 4], _, _, m / 4, rfl, ?_, ?_, put_eq, ?_, by simp; lia⟩
      · intro b o e hb
        have := hs2 _ _ e hb
        rw [put_ne (fun z => by rw [z, ha] at e; cases e)]; exact this
      · obtain ⟨ns, a1, a2, a3⟩ := hrow2
        exact ⟨ns, a1, a2, (put_ne hra).trans a3⟩
      · intro x hx
        rcases List.mem_append.mp hx with z | z
        · exact hok2 x z
        · have : x = m % 4 := by simpa using z
          lia
    · rintro l s2 ⟨bs', k3, k5, m, rfl, hs2, hrow2, hsa2, hok2, hbl2⟩
      simp only [List.length_map, List.length_range] at hbl2
      walk_at "mini"
      exact ⟨bs', _, _, _, rfl, hs2, hrow2, hsa2, hok2, by rw [hbl2]; simp; lia⟩
  · rintro l s ⟨bs, l3, l4, l5, rfl, hs, hrow, hsa, hok, hbl⟩
    rw [hlen] at hbl
    walk_at "mini"
    walk_at "st"
    refine sl_to hsa (by rw [ints_len]; unfold lineL; lia) (by lia) fun b hb => ?_
    rw [Int.toNat_natCast]
    have hbr : row ≠ b := fun z => by obtain ⟨_, _, _, e⟩ := hrow; rw [z, hb] at e; cases e
    have : (numL bs).take wd = numL (bs.take wd) := by simp [numL, List.map_take]
    rw [this]
    refine q b (bs.take wd) _ ?_ (by rw [List.length_take]; lia) (fun x hx => hok x (List.mem_of_mem_take hx)) (fun b' o e hb' => ?_) ?_ put_eq
    · cases e : σ b with
      | none => rfl
      | some o => exact absurd (hs _ _ e (by simpa using Ne.symm hbr)) (by rw [hb]; simp)
    · have := hs _ _ e hb'
      rw [put_ne (ne_new this hb)]; exact this
    · obtain ⟨ns, a1, a2, a3⟩ := hrow
      exact ⟨ns, a1, a2, (put_ne hbr).trans a3⟩
end
theorem lo2_take (cs : List Nat) : ∀ i, i < cs.length → lo2 (cs.take (i + 1)) = lo2 (cs.take i) + at0 cs i % 2 * 2 ^ i := by
  induction cs with
  | nil => intro i h; simp at h
  | cons c r ih =>
    intro i h
    cases i with
    | zero => simp [lo2, at0_zero]
    | succ i =>
      rw [List.take_succ_cons, List.take_succ_cons, lo2, lo2, ih i (by simpa using h), at0_succ, Nat.pow_succ, Nat.mul_add]
      have : at0 r i % 2 * (2 ^ i * 2) = 2 * (at0 r i % 2 * 2 ^ i) := by rw [Nat.mul_comm (2 ^ i) 2, ← Nat.mul_assoc, Nat.mul_comm _ 2, Nat.mul_assoc]
      lia
theorem hi2_take (cs : List Nat) : ∀ i, i < cs.length → hi2 (cs.take (i + 1)) = hi2 (cs.take i) + at0 cs i / 2 * 2 ^ i := by
  induction cs with
  | nil => intro i h; simp at h
  | cons c r ih =>
    intro i h
    cases i with
    | zero => simp [hi2, at0_zero]
    | succ i =>
      rw [List.take_succ_cons, List.take_succ_cons, hi2, hi2, ih i (by simpa using h), at0_succ, Nat.pow_succ, Nat.mul_add]
      have : at0 r i / 2 * (2 ^ i * 2) = 2 * (at0 r i / 2 * 2 ^ i) := by rw [Nat.mul_comm (2 ^ i) 2, ← Nat.mul_assoc, Nat.mul_comm _ 2, Nat.mul_assoc]
      lia
section
variable {c : CX} {r : Nat} {σ : Hp} {Q E : MV → Hp → Prop} {t : Tk Q E}
theorem lenN_s {a : Addr} {ns : List Nat} (hs : σ a = some (.list (numL ns))) (hl : ns.length ≤ 1000) (q : Q (.int (ns.length : Int)) σ) : CS1 c.toCx r (.builtin "len") [.ref a] σ Q E t := by
  refine len_s hs (by rw [ints_len]; exact hl) ?_
  rw [ints_len]; exact q
theorem itemN {a : Addr} {ns : List Nat} {k : Int} (i : Nat) (hs : σ a = some (.list (numL ns))) (hk : k = i) (hi : i < ns.length) (h6 : i ≤ 100000) (q : Q (.int (at0 ns i : Int)) σ) : itemP (.ref a) (.int k) σ Q := by
  refine item_l i hs hk (by walk_at "om") (v := .int (at0 ns i : Int)) ?_ q
  unfold numL at0
  rw [List.getElem?_map, List.getElem?_eq_getElem hi]; rfl
theorem made_s {a : Addr} {cs : List Nat} (hr : 2 ≤ r) (hs : σ a = some (.list (numL cs))) (h : Ok cs) (hl : cs.length ≤ 20) (q : Q (V cs) σ) : CS1 c.toCx r (.ref A.f__law_made) [.ref a] σ Q E t := by
  refine cal__law_made (by walk_at "om") ?_
  walk_at "st"
  walk_at "st"
  walk_at "st"
  refine for_rule (by walk_at "om") ?_
  walk_at "mini"
  refine lenN_s hs (by walk_at "om") ?_
  walk_at "mini"
  refine ⟨⟨by lia, by lia⟩, ?_⟩
  have hlen : ((List.range (cs.length : Int).toNat).map fun (i : Nat) => MV.int (i : Int)).length = cs.length := by simp
  refine forK_ix (fun i l s => ∃ l3, l = [some (.ref a), some (.int (lo2 (cs.take i) : Int)), some (.int (hi2 (cs.take i) : Int)), l3] ∧ s = σ) ⟨_, rfl, rfl⟩ (fun _ _ _ _ => trivial) ?_ ?_
  · rintro i x l s hx ⟨l3, rfl, rfl⟩
    have hi : i < cs.length := by have := (List.getElem?_eq_some_iff.mp hx).1; rw [hlen] at this; exact this
    have hxi : x = .int (i : Int) := by
      rw [List.getElem?_map, Int.toNat_natCast, List.getElem?_range hi] at hx
      exact (Option.some.inj hx).symm
    subst hxi
    have h4 := at0_lt h i
    have hp : (2 : Int) ^ (i : Int).toNat = ((2 ^ i : Nat) : Int) := by simp
    have hp64 : (2 ^ i : Nat) < 2 ^ 60 := Nat.pow_lt_pow_right (by decide) (by walk_at "om")
    show setP _ _ _ _
    walk_at "mini"
    walk_at "st"
    refine itemN i hs rfl hi (by walk_at "om") ?_
    walk_at "mini"
    rw [show (2 : Int) = ((2 : Nat) : Int) from rfl, fmodN _ 2 (by decide)]
    refine ⟨by decide, ⟨by decide, by lia, by lia⟩, ?_⟩
    rw [show ((2 : Nat) : Int) = 2 from rfl, hp]
    refine ⟨⟨fits (by walk_at "om"), fits hp64⟩, ?_⟩
    walk_at "mini"
    walk_at "st"
    refine itemN i hs rfl hi (by walk_at "om") ?_
    walk_at "mini"
    rw [show (2 : Int) = ((2 : Nat) : Int) from rfl, fdivN]
    refine ⟨⟨by decide, by decide⟩, ⟨by decide, by lia, by lia⟩, ?_⟩
    rw [show ((2 : Nat) : Int) = 2 from rfl, hp]
    refine ⟨⟨fits (by walk_at "om"), fits hp64⟩, ?_⟩
    walk_at "mini"
    refine ⟨some (.int (i : Int)), ?_, trivial⟩
    rw [lo2_take cs i hi, hi2_take cs i hi]
    simp
  · rintro l s ⟨l3, rfl, rfl⟩
    rw [hlen, List.take_length]
    walk_at "mini"
    walk_at "st"
    refine lenN_s hs (by walk_at "om") ?_
    walk_at "mini"
    exact q
theorem lv_s {k w ref : MV} (hr : 1 ≤ r) (q : Q (.tup [.sym 119, w, .tup [.tup [k, w, ref, .none, .tup [.sym 5, .int 0]]]]) σ) : CS1 c.toCx r (.ref A.f__law_lv) [k, w, ref] σ Q E t := by
  refine cal__law_lv (by walk_at "om") ?_
  walk_at "st"
  exact q
theorem row_s {scr : Addr} {ns : List Int} (hr : 3 ≤ r) (h : σ scr = some (.frz ns)) (hn : ns.length ≤ 1000) (q : ∀ a σ', σ a = none → Same [] σ σ' → RowOk σ' a → Q (.ref a) σ') : CS1 c.toCx r (.ref A.f__law_row) [.ref scr] σ Q E t := by
  refine cal__law_row (by walk_at "om") ?_
  walk_at "st"
  intro a ha
  walk_at "mini"
  have hsa := ne_new h ha
  walk_at "st"
  refine for_rule (by walk_at "om") ?_
  walk_at "mini"
  refine sl_frz ((put_ne hsa).trans h) (by unfold lineL; lia) (by decide) fun b hb => ?_
  walk_at "mini"
  refine ⟨_, put_eq, ?_⟩
  have hba : a ≠ b := fun z => by rw [← z, put_eq] at hb; cases hb
  have hσb : σ b = none := by
    cases e : σ b with
    | none => rfl
    | some o => rw [put_ne (fun z => hba z.symm), e] at hb; cases hb
  generalize hX : List.take (40 : Int).toNat (ns.map MV.int) = X
  have hXl : X.length ≤ 40 := by rw [← hX, List.length_take]; exact Nat.min_le_left _ _
  have hXi : ∀ x ∈ X, ∃ k : Int, x = .int k := fun x hx => by
    rw [← hX] at hx
    obtain ⟨k, _, e⟩ := List.mem_map.mp (List.mem_of_mem_take hx)
    exact ⟨k, e.symm⟩
  refine forK_ix (fun i l s => ∃ ms l2 l3 l4, l = [some (.ref scr), some (.ref a), l2, l3, l4] ∧ Same [] σ s ∧ s b = some (.list X) ∧ s a = some (.list (numL ms)) ∧ (∀ m ∈ ms, m < 1024) ∧ ms.length ≤ 31 * i) ⟨[], _, _, _, rfl, (Same.new ha).trans (Same.new hb), put_eq, (put_ne hba).trans put_eq, (fun _ h => by cases h), by simp⟩
    (fun _ _ _ z => by obtain ⟨_, _, _, _, _, _, h, _⟩ := z; exact h) ?_ ?_
  · rintro i x l s hx ⟨ms, l2, l3, l4, rfl, hs, hsb, hsa', hm, hml⟩
    have hi : i < 40 := by have := (List.getElem?_eq_some_iff.mp hx).1; lia
    obtain ⟨k, rfl⟩ := hXi x (List.mem_of_getElem? hx)
    show setP _ _ _ _
    walk_at "mini"
    walk_at "st"
    have num : ∀ (m : Nat) (rest : List MS) (QS : Out → Loc → Hp → Prop) (ES : MV → Loc → Hp → Prop), Rest rest M.xlaw_row_3_1 →
        (∀ ms' l3 l4 s', Same [] σ s' → s' b = some (.list X) → s' a = some (.list (numL ms')) → (∀ m ∈ ms', m < 1024) → ms'.length ≤ 31 * (i + 1) → QS .next [some (.ref scr), some (.ref a), some (.int k), l3, l4] s') →
        swps Tb (CSf c.toCx) (r - 1) rest [some (.ref scr), some (.ref a), some (.int k), some (.int ((m : Nat) : Int)), l4] s QS ES := by
      intro m rest QS ES hR fin
      walk_at "st"
      refine meth_app hsa' ?_
      walk_at "mini"
      rw [show (1024 : Int) = ((1024 : Nat) : Int) from rfl, fmodN m 1024 (by decide)]
      refine ⟨by decide, app_num hsa' (by walk_at "om") ?_⟩
      walk_at "mini"
      walk_at "st"
      refine ⟨⟨by decide, by decide⟩, ?_⟩
      rw [show (1024 : Int) = ((1024 : Nat) : Int) from rfl, fdivN]
      walk_at "mini"
      walk_at "st"
      refine for_rule (by walk_at "om") ?_
      walk_at "mini"
      refine ⟨⟨by decide, by decide⟩, ?_⟩
      refine forK_ix (fun j l s' => ∃ ms' l4 m', l = [some (.ref scr), some (.ref a), some (.int k), some (.int ((m' : Nat) : Int)), l4] ∧ Same [] σ s' ∧ s' b = some (.list X) ∧ s' a = some (.list (numL ms')) ∧ (∀ m ∈ ms', m < 1024) ∧ ms'.length ≤ 31 * i + 1 + j)
        ⟨ms ++ [m % 1024], _, m / 1024, rfl, ?_, (put_ne (Ne.symm hba)).trans hsb, put_eq, ?_, by simp; lia⟩ (fun _ _ _ _ => trivial) ?_ ?_
      · intro b' o e hb'
        have := hs _ _ e hb'
        rw [put_ne (ne_new e ha)]; exact this
      · intro y hy
        rcases List.mem_append.mp hy with z | z
        · exact hm y z
        · have : y = m % 1024 := by simpa using z
          lia
      · rintro j y l s2 hy ⟨ms', l4, m', rfl, hs2, hsb2, hsa2, hm2, hml2⟩
        have hj : j < 30 := by have := (List.getElem?_eq_some_iff.mp hy).1; simpa using this
        show setP _ _ _ _
        walk_at "mini"
        walk_at "st"
        by_cases h0 : 0 < (m' : Int)
        · rw [decide_eq_true h0]
          walk_at "mini"
          walk_at "st"
          refine meth_app hsa2 ?_
          walk_at "mini"
          rw [show (1024 : Int) = ((1024 : Nat) : Int) from rfl, fmodN m' 1024 (by decide)]
          refine ⟨by decide, app_num hsa2 (by walk_at "om") ?_⟩
          walk_at "mini"
          walk_at "st"
          refine ⟨⟨by decide, by decide⟩, ?_⟩
          rw [show (1024 : Int) = ((1024 : Nat) : Int) from rfl, fdivN]
          walk_at "mini"
          refine ⟨ms' ++ [m' % 1024], _, m' / 1024, rfl, ?_, (put_ne (Ne.symm hba)).trans hsb2, put_eq, ?_, by simp; lia⟩
          · intro b' o e hb'
            have := hs2 _ _ e hb'
            rw [put_ne (ne_new e ha)]; exact this
          · intro y hy
            rcases List.mem_append.mp hy with z | z
            · exact hm2 y z
            · have : y = m' % 1024 := by simpa using z
              lia
        · rw [decide_eq_false h0]
          walk_at "mini"
          exact ⟨ms', _, m', rfl, hs2, hsb2, hsa2, hm2, by lia⟩
      · rintro l s2 ⟨ms', l4, m', rfl, hs2, hsb2, hsa2, hm2, hml2⟩
        simp only [List.length_map, List.length_range] at hml2
        exact fin ms' _ _ s2 hs2 hsb2 hsa2 hm2 (by have : (30 : Int).toNat = 30 := rfl; lia)
    by_cases hk : 0 ≤ k
    · rw [decide_eq_true hk]
      walk_at "mini"
      obtain ⟨m, rfl⟩ := Int.eq_ofNat_of_zero_le hk
      refine num m _ _ _ (by assumption) fun ms' l3 l4 s' a1 a2 a3 a4 a5 => ?_
      walk_at "mini"
      exact ⟨ms', _, _, _, rfl, a1, a2, a3, a4, a5⟩
    · rw [decide_eq_false hk]
      walk_at "mini"
      obtain ⟨m, hm'⟩ : ∃ m : Nat, 7 - k = m := ⟨(7 - k).toNat, by lia⟩
      rw [hm']
      refine num m _ _ _ (by assumption) fun ms' l3 l4 s' a1 a2 a3 a4 a5 => ?_
      walk_at "mini"
      exact ⟨ms', _, _, _, rfl, a1, a2, a3, a4, a5⟩
  · rintro l s ⟨ms, l2, l3, l4, rfl, hs, hsb, hsa', hm, hml⟩
    walk_at "mini"
    walk_at "st"
    refine sl_to hsa' (by rw [ints_len]; unfold lineL; lia) (by decide) fun d hd => ?_
    walk_at "mini"
    walk_at "st"
    refine meth_rev put_eq ?_
    walk_at "mini"
    refine rev_s put_eq (by rw [List.length_take, ints_len]; lia) ?_
    rw [put_put]
    walk_at "mini"
    walk_at "sts"
    have hσd : σ d = none := by
      cases e : σ d with
      | none => rfl
      | some o => have := hs _ _ e (by simp); rw [hd] at this; cases this
    refine q d _ hσd (hs.trans (Same.new hd)) ⟨(ms.take 160).reverse, fun n hn => hm n (List.mem_of_mem_take (List.mem_reverse.mp hn)), by rw [List.length_reverse, List.length_take]; exact Nat.min_le_left _ _, ?_⟩
    rw [put_eq]
    simp [numL, List.map_take]
end
theorem Same.born {σ σ' : Hp} {a : Addr} {o : MObj} (h : σ a = none) (s : Same [a] (σ.put a o) σ') : Same [] σ σ' := fun b o' e _ =>
  s b o' ((put_ne (ne_new e h)).trans e) (by simpa using ne_new e h)
section
variable {c : CX} {r : Nat} {σ : Hp} {Q E : MV → Hp → Prop} {t : Tk Q E}
theorem ini_list {a C : Addr} {n : Nat} {fs : List (Nat × MV)} {loc : Loc} {QS : Out → Loc → Hp → Prop} {ES : MV → Loc → Hp → Prop} (hl : loc[0]? = some (some (.ref a))) (h : σ a = some (.inst C fs)) (ok : Tb.okAttr C n = true) (hn : fs.length ≤ 900)
    (q : ∀ l σ', σ l = none → l ≠ a → Same [a] σ σ' → σ' l = some (.list []) → σ' a = some (.inst C (putN n (.ref l) fs)) → QS .next loc σ') : swp Tb (CSf c.toCx) r (.asg (.attr (.loc 0) n) (.list [])) loc σ QS ES := by
  walk_at "mini"
  intro l hl'
  rw [hl]
  walk_at "mini"
  have hne := ne_new h hl'
  refine seta_i ((put_ne hne).trans h) ok hn ?_
  refine q l _ hl' (Ne.symm hne) ((Same.new hl').trans Same.put) ?_ put_eq
  rw [put_ne (Ne.symm hne)]; exact put_eq
theorem ini_dict {a C : Addr} {n : Nat} {fs : List (Nat × MV)} {loc : Loc} {QS : Out → Loc → Hp → Prop} {ES : MV → Loc → Hp → Prop} (hl : loc[0]? = some (some (.ref a))) (h : σ a = some (.inst C fs)) (ok : Tb.okAttr C n = true) (hn : fs.length ≤ 900)
    (q : ∀ l σ', σ l = none → l ≠ a → Same [a] σ σ' → σ' l = some (.dI []) → σ' a = some (.inst C (putN n (.ref l) fs)) → QS .next loc σ') : swp Tb (CSf c.toCx) r (.asg (.attr (.loc 0) n) .dI) loc σ QS ES := by
  walk_at "mini"
  intro l hl'
  rw [hl]
  walk_at "mini"
  have hne := ne_new h hl'
  refine seta_i ((put_ne hne).trans h) ok hn ?_
  refine q l _ hl' (Ne.symm hne) ((Same.new hl').trans Same.put) ?_ put_eq
  rw [put_ne (Ne.symm hne)]; exact put_eq
theorem Same.two {a : Addr} {σ σ' : Hp} (s : Same [a] σ σ') {b : Addr} {o : MObj} (h : σ b = some o) (n : b ≠ a) : σ' b = some o := s _ _ h (by simpa using n)
local macro_rules | `(tactic| walk_at "nx") => `(tactic| first | (refine s_stepR (by assumption) rfl ?_; intro _ _) | (refine s_stepH rfl ?_; intro _ _) | refine s_lastR (by assumption) rfl ?_)
theorem design_s (hr : 3 ≤ r) (q : ∀ d rl sl bp fs σ', σ d = none → Same [] σ σ' → σ' d = some (.inst A.c_Design fs) → fs.lookup 113 = some (.ref rl) → fs.lookup 48 = some (.ref sl) → fs.lookup 117 = some (.ref bp) → fs.lookup 64 = none → fs.lookup 120 = none → fs.lookup 125 = none →
      σ' rl = some (.list []) → σ' sl = some (.list []) → σ' bp = some (.dS []) → sl ≠ rl → sl ≠ bp → rl ≠ bp → σ rl = none → σ sl = none → σ bp = none → Q (.ref d) σ') : CS1 c.toCx r (.ref A.c_Design) [] σ Q E t := by
  refine new_Design (by walk_at "om") fun d hd => cod_Design___init__ (by walk_at "om") ?_
  have h0 : (σ.put d (.inst A.c_Design [])) d = some (.inst A.c_Design []) := put_eq
  have s0 : Same [d] (σ.put d (.inst A.c_Design [])) (σ.put d (.inst A.c_Design [])) := Same.refl _ _
  generalize hσ0 : σ.put d (.inst A.c_Design []) = τ at *
  have old : ∀ {l σ'}, Same [d] τ σ' → σ' l = none → l ≠ d → σ l = none := fun {l σ'} s e n => by
    cases q : σ l with
    | none => rfl
    | some o => have := s l o (by rw [← hσ0, put_ne n]; exact q) (by simpa using n); rw [e] at this; cases this
  walk_at "nx"
  refine ini_list rfl h0 (by rfl) (Nat.le_of_ble_eq_true rfl) fun sl σ1 e1 n1 k1 g1 h1 => ?_
  rw [seqQ_next]
  have s1 := s0.trans k1
  walk_at "nx"
  refine ini_list rfl h1 (by rfl) (Nat.le_of_ble_eq_true rfl) fun l2 σ2 e2 n2 k2 g2 h2 => ?_
  rw [seqQ_next]
  have s2 := s1.trans k2
  have gs2 := k2.two g1 n1
  walk_at "nx"
  refine ini_list rfl h2 (by rfl) (Nat.le_of_ble_eq_true rfl) fun l3 σ3 e3 n3 k3 g3 h3 => ?_
  rw [seqQ_next]
  have s3 := s2.trans k3
  have gs3 := k3.two gs2 n1
  walk_at "nx"
  refine ini_list rfl h3 (by rfl) (Nat.le_of_ble_eq_true rfl) fun l4 σ4 e4 n4 k4 g4 h4 => ?_
  rw [seqQ_next]
  have s4 := s3.trans k4
  have gs4 := k4.two gs3 n1
  walk_at "nx"
  refine ini_list rfl h4 (by rfl) (Nat.le_of_ble_eq_true rfl) fun l5 σ5 e5 n5 k5 g5 h5 => ?_
  rw [seqQ_next]
  have s5 := s4.trans k5
  have gs5 := k5.two gs4 n1
  walk_at "nx"
  refine ini_list rfl h5 (by rfl) (Nat.le_of_ble_eq_true rfl) fun rl σ6 e6 n6 k6 g6 h6 => ?_
  rw [seqQ_next]
  have s6 := s5.trans k6
  have gs6 := k6.two gs5 n1
  have nsr : sl ≠ rl := ne_new gs5 e6
  walk_at "nx"
  refine ini_list rfl h6 (by rfl) (Nat.le_of_ble_eq_true rfl) fun l7 σ7 e7 n7 k7 g7 h7 => ?_
  rw [seqQ_next]
  have s7 := s6.trans k7
  have gs7 := k7.two gs6 n1
  have gr7 := k7.two g6 n6
  walk_at "nx"
  refine ini_list rfl h7 (by rfl) (Nat.le_of_ble_eq_true rfl) fun l8 σ8 e8 n8 k8 g8 h8 => ?_
  rw [seqQ_next]
  have s8 := s7.trans k8
  have gs8 := k8.two gs7 n1
  have gr8 := k8.two gr7 n6
  walk_at "nx"
  refine ini_list rfl h8 (by rfl) (Nat.le_of_ble_eq_true rfl) fun l9 σ9 e9 n9 k9 g9 h9 => ?_
  rw [seqQ_next]
  have s9 := s8.trans k9
  have gs9 := k9.two gs8 n1
  have gr9 := k9.two gr8 n6
  walk_at "st"
  refine seta_i h9 (by rfl) (Nat.le_of_ble_eq_true rfl) ?_
  walk_at "mini"
  walk_at "st"
  intro bp hb
  walk_at "mini"
  have nd : d ≠ bp := fun z => by rw [← z, put_eq] at hb; cases hb
  refine seta_i ((put_ne nd).trans put_eq) (by rfl) (Nat.le_of_ble_eq_true rfl) ?_
  have hb9 : σ9 bp = none := by rw [put_ne (Ne.symm nd)] at hb; exact hb
  have nb1 := ne_new gs9 hb9
  have nb2 := ne_new gr9 hb9
  walk_at "mini"
  refine q d rl sl bp _ _ hd ?_ put_eq rfl rfl rfl rfl rfl rfl ?_ ?_ ?_ nsr nb1 nb2 (old s5 e6 n6) (old s0 e1 n1) (old s9 hb9 (Ne.symm nd))
  · refine Same.born hd (o := .inst A.c_Design []) ?_
    rw [hσ0]
    exact ((s9.trans Same.put).trans (Same.new hb)).trans Same.put
  · rw [put_ne n6, put_ne nb2, put_ne n6]; exact gr9
  · rw [put_ne n1, put_ne nb1, put_ne n1]; exact gs9
  · rw [put_ne (Ne.symm nd)]; exact put_eq
theorem store_s {sl : Addr} (hr : 3 ≤ r) (q : ∀ st dv dm σ', σ st = none → σ dv = none → Same [] σ σ' → σ' st = some (.inst A.c_Store [(48, .ref sl), (52, .ref dv), (53, .ref dm), (54, .int 1)]) → σ' dv = some (.dI []) → Q (.ref st) σ') : CS1 c.toCx r (.ref A.c_Store) [.ref sl] σ Q E t := by
  refine new_Store (by walk_at "om") fun st hst => cod_Store___init__ (by walk_at "om") ?_
  walk_at "st"
  refine seta_i put_eq (by rfl) (Nat.le_of_ble_eq_true rfl) ?_
  rw [put_put]
  walk_at "mini"
  have h0 : (σ.put st (.inst A.c_Store (putN 48 (.ref sl) []))) st = some (.inst A.c_Store [(48, .ref sl)]) := put_eq
  have s0 : Same [] σ (σ.put st (.inst A.c_Store (putN 48 (.ref sl) []))) := Same.new hst
  generalize hσ0 : σ.put st (.inst A.c_Store (putN 48 (.ref sl) [])) = τ at *
  walk_at "nx"
  refine ini_dict rfl h0 (by rfl) (Nat.le_of_ble_eq_true rfl) fun dv σ1 e1 n1 k1 g1 h1 => ?_
  rw [seqQ_next]
  walk_at "nx"
  refine ini_dict rfl h1 (by rfl) (Nat.le_of_ble_eq_true rfl) fun dm σ2 e2 n2 k2 g2 h2 => ?_
  rw [seqQ_next]
  have g1' := k2.two g1 n1
  walk_at "st"
  refine seta_i h2 (by rfl) (Nat.le_of_ble_eq_true rfl) ?_
  walk_at "mini"
  refine q st dv dm _ hst ?_ (fun b o e _ => ?_) put_eq ?_
  · cases q : σ dv with
    | none => rfl
    | some o => have := s0 _ _ q (by simp); rw [e1] at this; cases this
  · have hb := ne_new e hst
    have hm : b ∉ [st] := by simpa using hb
    exact (put_ne hb).trans (k2 _ _ (k1 _ _ (s0 _ _ e (by simp)) hm) hm)
  · rw [put_ne n1]; exact g1'
theorem ctx_init {cx st fr d : Addr} {fuel : Int} (hr : 3 ≤ r) (hcx : σ cx = none) (q : ∀ dw σ', σ dw = none → Same [] σ σ' → σ' cx = some (fcO st fr d dw fuel 0) → σ' dw = some (.dI []) → Q (.ref cx) σ') :
    swps Tb (CSf c.toCx) (r - 1) M.FunctionContext___init__ [some (.ref cx), some (.ref d), some (.ref st), some (.ref fr), some (.int 0), some (.int fuel)] (σ.put cx (.inst A.c_FunctionContext [])) (retQ fun v σ1 => v = .none ∧ Q (.ref cx) σ1) (fun x _ σ1 => E x σ1) := by
  walk_at "st"
  refine meth_c (by rfl) ?_
  walk_at "mini"
  refine cal_Context___init__ (by walk_at "om") ?_
  walk_at "st"
  refine seta_i put_eq (by rfl) (Nat.le_of_ble_eq_true rfl) ?_
  rw [put_put]
  walk_at "mini"
  walk_at "st"
  refine seta_i put_eq (by rfl) (Nat.le_of_ble_eq_true rfl) ?_
  rw [put_put]
  walk_at "mini"
  walk_at "st"
  refine seta_i put_eq (by rfl) (Nat.le_of_ble_eq_true rfl) ?_
  rw [put_put]
  walk_at "mini"
  walk_at "st"
  refine seta_i put_eq (by rfl) (Nat.le_of_ble_eq_true rfl) ?_
  rw [put_put]
  walk_at "mini"
  walk_at "st"
  refine seta_i put_eq (by rfl) (Nat.le_of_ble_eq_true rfl) ?_
  rw [put_put]
  walk_at "mini"
  walk_at "st"
  refine seta_i put_eq (by rfl) (Nat.le_of_ble_eq_true rfl) ?_
  rw [put_put]
  walk_at "mini"
  walk_at "st"
  intro dw hdw
  walk_at "mini"
  have n : cx ≠ dw := fun z => by rw [← z, put_eq] at hdw; cases hdw
  refine seta_i ((put_ne n).trans put_eq) (by rfl) (Nat.le_of_ble_eq_true rfl) ?_
  walk_at "mini"
  have hdw' : σ dw = none := by rw [put_ne (Ne.symm n)] at hdw; exact hdw
  refine q dw _ hdw' (fun b o e _ => ?_) put_eq ?_
  · have h1 := ne_new e hcx
    have h2 := ne_new e hdw'
    rw [put_ne h1, put_ne h2, put_ne h1]; exact e
  · rw [put_ne (Ne.symm n)]; exact put_eq
theorem ctx5_s {st fr d : Addr} {fuel : Int} (hr : 4 ≤ r) (q : ∀ cx dw σ', σ cx = none → σ dw = none → Same [] σ σ' → σ' cx = some (fcO st fr d dw fuel 0) → σ' dw = some (.dI []) → Q (.ref cx) σ') :
    CS1 c.toCx r (.ref A.c_FunctionContext) [.ref d, .ref st, .ref fr, .int 0, .int fuel] σ Q E t :=
  new_FunctionContext (by walk_at "om") fun cx hcx => cod_FunctionContext___init__ (by walk_at "om") (ctx_init (by walk_at "om") hcx fun dw σ' e s h1 h2 => q cx dw σ' hcx e s h1 h2)
theorem ctx4_s {st fr d : Addr} (hr : 4 ≤ r) (q : ∀ cx dw σ', σ cx = none → σ dw = none → Same [] σ σ' → σ' cx = some (fcO st fr d dw 10000 0) → σ' dw = some (.dI []) → Q (.ref cx) σ') :
    CS1 c.toCx r (.ref A.c_FunctionContext) [.ref d, .ref st, .ref fr, .int 0] σ Q E t :=
  new_FunctionContext (by walk_at "om") fun cx hcx => cod_FunctionContext___init___5 (by walk_at "om") (ctx_init (by walk_at "om") hcx fun dw σ' e s h1 h2 => q cx dw σ' hcx e s h1 h2)
end
local macro_rules | `(tactic| walk_at "nx") => `(tactic| first | refine s_lastR (by assumption) rfl ?_ | (refine s_stepR (by assumption) rfl ?_; intro _ _) | (refine s_stepH rfl ?_; intro _ _))
local macro_rules | `(tactic| walk_at "sa") => `(tactic| (refine seta_i put_eq (by rfl) (Nat.le_of_ble_eq_true rfl) ?_; rw [put_put]; walk_at "mini"))
section
variable {c : CX} {r : Nat} {σ : Hp} {Q E : MV → Hp → Prop} {t : Tk Q E}
noncomputable def sigFs (key path kind width sg msb lsb at_ : MV) : List (Nat × MV) := [(93, key), (94, path), (4, kind), (49, width), (95, sg), (96, msb), (97, lsb), (98, .none), (99, .none), (100, .none), (5, at_), (101, .bool false)]
theorem signal_s {key path kind width sg msb lsb : MV} (hr : 2 ≤ r) (q : ∀ s, σ s = none → Q (.ref s) (σ.put s (.inst A.c_Signal (sigFs key path kind width sg msb lsb (.int (-1)))))) : CS1 c.toCx r (.ref A.c_Signal) [key, path, kind, width, sg, msb, lsb] σ Q E t := by
  refine new_Signal (by walk_at "om") fun s hs => cod_Signal___init__ (by walk_at "om") ?_
  walk_at "st"
  walk_at "sa"
  walk_at "st"
  walk_at "sa"
  walk_at "st"
  walk_at "sa"
  walk_at "st"
  walk_at "sa"
  walk_at "st"
  walk_at "sa"
  walk_at "st"
  walk_at "sa"
  walk_at "st"
  walk_at "sa"
  walk_at "st"
  walk_at "sa"
  walk_at "st"
  walk_at "sa"
  walk_at "st"
  walk_at "sa"
  walk_at "st"
  walk_at "sa"
  walk_at "st"
  walk_at "sa"
  exact q s hs
theorem add_signal_s {d sl bp : Addr} {fs : List (Nat × MV)} {xs : List MV} {kvs : List (Nat × MV)} {p : Nat} {kind width sg msb lsb at_ : MV} (hr : 4 ≤ r) (hd : σ d = some (.inst A.c_Design fs)) (h1 : fs.lookup 48 = some (.ref sl)) (h2 : fs.lookup 117 = some (.ref bp)) (hs : σ sl = some (.list xs)) (hx : xs.length ≤ 100) (hb : σ bp = some (.dS kvs)) (hk : kvs.length ≤ 1000)
    (q : ∀ s σ', σ s = none → Same [sl, bp] σ σ' → σ' s = some (.inst A.c_Signal (sigFs (.int xs.length) (.sym p) kind width sg msb lsb at_)) → σ' sl = some (.list (xs ++ [.ref s])) → σ' bp = some (.dS (putN p (.int xs.length) kvs)) → Q (.ref s) σ') :
    CS1 c.toCx r (.ref A.f_Design_add_signal) [.ref d, .sym p, kind, width, sg, msb, lsb, at_] σ Q E t := by
  refine cal_Design_add_signal (by walk_at "om") ?_
  walk_at "st"
  refine attr_i hd (by rfl) h1 ?_
  walk_at "mini"
  refine len_s hs (by walk_at "om") ?_
  walk_at "mini"
  refine signal_s (by walk_at "om") fun s hs' => ?_
  walk_at "mini"
  walk_at "st"
  refine seta_i put_eq (by rfl) (Nat.le_of_ble_eq_true rfl) ?_
  rw [put_put]
  walk_at "mini"
  have n1 := ne_new hd hs'
  have n2 := ne_new hs hs'
  have n3 := ne_new hb hs'
  have n4 : sl ≠ bp := ne_of hs hb (by simp)
  have n5 : sl ≠ d := ne_of hs hd (by simp)
  walk_at "st"
  refine attr_i ((put_ne n1).trans hd) (by rfl) h1 ?_
  walk_at "mini"
  refine meth_app ((put_ne n2).trans hs) ?_
  walk_at "mini"
  refine append_s ((put_ne n2).trans hs) (by walk_at "om") ?_
  walk_at "mini"
  walk_at "st"
  refine attr_i ((put_ne (Ne.symm n2)).trans put_eq) (by rfl) (by rfl) ?_
  walk_at "mini"
  refine attr_i ((put_ne (Ne.symm n5)).trans ((put_ne n1).trans hd)) (by rfl) h2 ?_
  walk_at "mini"
  refine seti_s ((put_ne (Ne.symm n4)).trans ((put_ne n3).trans hb)) hk ?_
  walk_at "mini"
  walk_at "st"
  refine q s _ hs' (fun b o e hb' => ?_) ?_ ?_ put_eq
  · have m1 : b ≠ sl := fun z => hb' (by simp [z])
    have m2 : b ≠ bp := fun z => hb' (by simp [z])
    rw [put_ne m2, put_ne m1, put_ne (ne_new e hs')]; exact e
  · rw [put_ne (Ne.symm n3), put_ne (Ne.symm n2)]; exact put_eq
  · rw [put_ne n4]; exact put_eq
theorem ini_val {a C : Addr} {n : Nat} {e : ME} {fs : List (Nat × MV)} {loc : Loc} {QS : Out → Loc → Hp → Prop} {ES : MV → Loc → Hp → Prop} (v : MV) (hl : loc[0]? = some (some (.ref a))) (hv : ∀ (Q' E' : MV → Hp → Prop) s, Q' v s → ewp Tb (CSf c.toCx) r e loc s Q' E') (h : σ a = some (.inst C fs)) (ok : Tb.okAttr C n = true) (hn : fs.length ≤ 900)
    (q : ∀ σ', Same [a] σ σ' → σ' a = some (.inst C (putN n v fs)) → QS .next loc σ') : swp Tb (CSf c.toCx) r (.asg (.attr (.loc 0) n) e) loc σ QS ES := by
  simp only [s_asg_attr, e_loc]
  refine hv _ _ _ ?_
  rw [hl]
  walk_at "mini"
  exact seta_i h ok hn (q _ Same.put put_eq)
local macro_rules | `(tactic| walk_at "hv") => `(tactic| (intro Q' E' s q; walk_at "mini"; exact q))
theorem routine_new {num path fn au at_ : MV} (hr : 2 ≤ r) (q : ∀ rt fs σ', σ rt = none → Same [] σ σ' → σ' rt = some (.inst A.c_Routine fs) → fs = [(102, num), (94, path), (103, fn), (104, au), (5, at_), (49, .int 1), (95, .bool false), (68, (fs.lookup 68).getD .none), (67, (fs.lookup 67).getD .none), (66, .none), (105, .none), (106, .none), (107, .int (-1)), (108, .bool false)] → Q (.ref rt) σ') :
    CS1 c.toCx r (.ref A.c_Routine) [num, path, fn, au, at_] σ Q E t := by
  refine new_Routine (by walk_at "om") fun rt hrt => cod_Routine___init__ (by walk_at "om") ?_
  walk_at "st"
  walk_at "sa"
  walk_at "st"
  walk_at "sa"
  walk_at "st"
  walk_at "sa"
  walk_at "st"
  walk_at "sa"
  walk_at "st"
  walk_at "sa"
  walk_at "st"
  walk_at "sa"
  walk_at "st"
  walk_at "sa"
  generalize hσ0 : σ.put rt _ = τ
  have h0 : τ rt = some (.inst A.c_Routine [(102, num), (94, path), (103, fn), (104, au), (5, at_), (49, .int 1), (95, .bool false)]) := by rw [← hσ0]; exact put_eq
  have s0 : Same [] σ τ := by rw [← hσ0]; exact Same.new hrt
  walk_at "nx"
  refine ini_list rfl h0 (by rfl) (Nat.le_of_ble_eq_true rfl) fun pl σ1 e1 n1 k1 g1 h1 => ?_
  rw [seqQ_next]
  walk_at "nx"
  refine ini_list rfl h1 (by rfl) (Nat.le_of_ble_eq_true rfl) fun ll σ2 e2 n2 k2 g2 h2 => ?_
  rw [seqQ_next]
  walk_at "nx"
  refine ini_val .none rfl (by walk_at "hv") h2 (by rfl) (Nat.le_of_ble_eq_true rfl) fun σ3 k3 h3 => ?_
  rw [seqQ_next]
  walk_at "nx"
  refine ini_val .none rfl (by walk_at "hv") h3 (by rfl) (Nat.le_of_ble_eq_true rfl) fun σ4 k4 h4 => ?_
  rw [seqQ_next]
  walk_at "nx"
  refine ini_val .none rfl (by walk_at "hv") h4 (by rfl) (Nat.le_of_ble_eq_true rfl) fun σ5 k5 h5 => ?_
  rw [seqQ_next]
  walk_at "nx"
  refine ini_val (.int (-1)) rfl (by walk_at "hv") h5 (by rfl) (Nat.le_of_ble_eq_true rfl) fun σ6 k6 h6 => ?_
  rw [seqQ_next]
  walk_at "nx"
  refine ini_val (.bool false) rfl (by walk_at "hv") h6 (by rfl) (Nat.le_of_ble_eq_true rfl) fun σ7 k7 h7 => ?_
  rw [retQ_next]
  refine ⟨rfl, q rt _ σ7 hrt (fun b o e _ => ?_) h7 rfl⟩
  have hb : b ∉ [rt] := by simpa using ne_new e hrt
  exact k7 _ _ (k6 _ _ (k5 _ _ (k4 _ _ (k3 _ _ (k2 _ _ (k1 _ _ (s0 _ _ e (by simp)) hb) hb) hb) hb) hb) hb) hb
noncomputable def rtFs (num path fn au at_ ports slots body made : MV) : List (Nat × MV) := [(102, num), (94, path), (103, fn), (104, au), (5, at_), (49, .int 1), (95, .bool false), (68, ports), (67, slots), (66, body), (105, .none), (106, .none), (107, .int (-1)), (108, made)]
theorem add_routine_s {d rl : Addr} {fs : List (Nat × MV)} {xs : List MV} {path fn au at_ : MV} (hr : 4 ≤ r) (hd : σ d = some (.inst A.c_Design fs)) (h1 : fs.lookup 113 = some (.ref rl)) (hs : σ rl = some (.list xs)) (hx : xs.length ≤ 100)
    (q : ∀ rt p l σ', σ rt = none → Same [rl] σ σ' → σ' rt = some (.inst A.c_Routine (rtFs (.int xs.length) path fn au at_ p l .none (.bool false))) → σ' rl = some (.list (xs ++ [.ref rt])) → Q (.ref rt) σ') :
    CS1 c.toCx r (.ref A.f_Design_add_routine) [.ref d, path, fn, au, at_] σ Q E t := by
  refine cal_Design_add_routine (by walk_at "om") ?_
  walk_at "st"
  refine attr_i hd (by rfl) h1 ?_
  walk_at "mini"
  refine len_s hs (by walk_at "om") ?_
  walk_at "mini"
  refine routine_new (by walk_at "om") fun rt gs σ1 hrt s1 h1' hgs => ?_
  walk_at "mini"
  walk_at "st"
  refine attr_i (s1 _ _ hd (by simp)) (by rfl) h1 ?_
  walk_at "mini"
  have hs1 := s1 _ _ hs (by simp)
  refine meth_app hs1 ?_
  walk_at "mini"
  refine append_s hs1 (by walk_at "om") ?_
  walk_at "mini"
  walk_at "st"
  have hne : rt ≠ rl := ne_of h1' hs1 (by simp)
  rw [hgs] at h1'
  exact q rt _ _ _ hrt ((s1.mono (by simp)).trans Same.put) ((put_ne hne).trans h1') put_eq
theorem str_s {a : Int} (ha : a.natAbs < 10 ^ 100) (q : ∀ x : Str, x.length ≤ 200 → Q (.txt x) σ) : CS1 c.toCx r (.type "str") [.int a] σ Q E t := str_spec ha q
theorem function_s {d rl : Addr} {fs : List (Nat × MV)} {xs : List MV} {body ports slots : MV} (hr : 6 ≤ r) (hd : σ d = some (.inst A.c_Design fs)) (h1 : fs.lookup 113 = some (.ref rl)) (h2 : fs.lookup 120 = none) (hs : σ rl = some (.list xs)) (hx : xs.length ≤ 100)
    (q : ∀ rt gs σ', σ rt = none → Same [rl] σ σ' → σ' rt = some (.inst A.c_Routine gs) → gs.lookup 66 = some body → gs.lookup 67 = some slots → gs.lookup 68 = some ports → gs.lookup 108 = some (.bool true) → (putN 66 body gs = gs ∧ ∀ b, (putN 66 b gs).lookup 67 = some slots ∧ (putN 66 b gs).lookup 68 = some ports ∧ (putN 66 b gs).lookup 108 = some (.bool true) ∧ (putN 66 b gs).lookup 66 = some b ∧ gs.length ≤ 900) → σ' rl = some (.list (xs ++ [.ref rt])) → Q (.int xs.length) σ') :
    CS1 c.toCx r (.ref A.f__law_function) [.ref d, body, ports, slots] σ Q E t := by
  refine cal__law_function (by walk_at "om") ?_
  walk_at "st"
  refine meth_i hd (by rfl) h2 ?_
  walk_at "mini"
  refine attr_i hd (by rfl) h1 ?_
  walk_at "mini"
  refine len_s hs (by walk_at "om") ?_
  walk_at "mini"
  have hp : (100 : Nat) < 10 ^ 100 := Nat.lt_of_lt_of_le (by decide : 100 < 10 ^ 3) (Nat.pow_le_pow_right (by decide) (by decide))
  refine str_s (by walk_at "om") fun x hxl => ?_
  walk_at "mini"
  refine ⟨by lia, fun s' => ?_⟩
  walk_at "mini"
  refine add_routine_s (by walk_at "om") hd h1 hs hx fun rt p l σ1 hrt s1 g1 g2 => ?_
  walk_at "mini"
  unfold rtFs at g1
  have hne : rl ≠ rt := fun z => by rw [z, hrt] at hs; cases hs
  walk_at "st"
  refine seta_i g1 (by rfl) (Nat.le_of_ble_eq_true rfl) ?_
  walk_at "mini"
  walk_at "st"
  walk_at "sa"
  walk_at "st"
  walk_at "sa"
  walk_at "st"
  walk_at "sa"
  walk_at "st"
  refine attr_i put_eq (by rfl) (by rfl) ?_
  refine q rt _ _ hrt ?_ put_eq (by rfl) (by rfl) (by rfl) (by rfl) ⟨rfl, fun b => ⟨rfl, rfl, rfl, rfl, Nat.le_of_ble_eq_true rfl⟩⟩ ((put_ne hne).trans g2)
  intro b o e hb
  have := s1 _ _ e hb
  rw [put_ne (ne_new e hrt)]; exact this
theorem refused_s {cx : Addr} {n : MV} {ar : Addr} {fs : List (Nat × MV)} (hr : 3 ≤ r) (h : σ cx = some (.inst A.c_FunctionContext fs)) (hl : fs.lookup 45 = none)
    (q : CS1 c.toCx (r - 1) (.ref A.f_FunctionContext_call) [.ref cx, n, .ref ar] σ (fun _ σ1 => Q (.sym 122) σ1) (fun x σ1 => ∃ e C k a d, x = .ref e ∧ σ1 e = some (excO C k a d) ∧ (C = A.c_LimitReached ∨ C = A.c_DesignError) ∧ Q k σ1) {}) :
    CS1 c.toCx r (.ref A.f__law_refused) [.ref cx, n, .ref ar] σ Q E t := by
  refine cal__law_refused (by walk_at "om") ?_
  walk_at "st"
  refine tryX_rule ?_
  walk_at "st"
  refine meth_i h (by rfl) hl ?_
  walk_at "mini"
  refine CS1.mono q (fun v σ1 q => ?_) (fun x σ1 hx => ?_)
  · walk_at "mini"
    walk_at "sts"
    exact q
  · obtain ⟨e, C, k, a, d, rfl, he, hC, q⟩ := hx
    walk_at "mini"
    refine ⟨e, C, _, rfl, he, ?_, Nat.le_of_ble_eq_true rfl, ?_⟩
    · rcases hC with rfl | rfl <;> rfl
    · walk_at "st"
      refine attr_e he ?_ (by rfl) ?_
      · rcases hC with rfl | rfl <;> rfl
      · walk_at "mini"
        exact q
end
noncomputable def lvM (k : MV) (w ref : Int) : MV := .tup [.sym 119, .int w, .tup [.tup [k, .int w, .int ref, .none, .tup [.sym 5, .int 0]]]]
noncomputable def stepM : MV := .tup [.sym 74, lvM (.sym 34) 4 1, .tup [.sym 36, .int 4, .sym 7, .tup [.sym 34, .int 4, .int 1], .tup [.sym 31, .int 4, .int 1, .int 0], .bool false], .none]
noncomputable def leaveM (t : Nat) : MV := .tup [.sym 76, .tup [.sym 36, .int 1, .sym 20, .tup [.sym 34, .int 4, .int 1], .tup [.sym 31, .int 4, .int (t : Int), .int 0], .bool false], .tup [.sym 82, .int 7], .none]
noncomputable def beginM : MV := .tup [.sym 74, lvM (.sym 34) 4 1, .tup [.sym 31, .int 4, .int 0, .int 0], .none]
noncomputable def loopM (t : Nat) : MV := .tup [.sym 75, .tup [beginM, .tup [.sym 81, .tup [.sym 75, .tup [leaveM t, stepM], .int (-1)]]], .int 7]
noncomputable def moreM (p : Nat) : MV := .tup [.sym 74, lvM (.sym 32) 4 1, .tup [.sym 36, .int 4, .sym 26, .tup [.sym 32, .int 4, .int 1], .tup [.sym 31, .int 4, .int (p : Int), .int 0], .bool false], .none]
noncomputable def resultM : MV := .tup [.sym 74, lvM (.sym 34) 4 0, .tup [.sym 34, .int 4, .int 1], .none]
noncomputable def bodyM (t p : Nat) : MV := .tup [.sym 75, .tup [loopM t, moreM p, resultM], .int (-1)]
theorem num4 : ∀ k : Nat, k < 16 → lo2 (bitsC 4 (k : Int)) = k ∧ hi2 (bitsC 4 (k : Int)) = 0 := by decide +kernel
theorem const4 {k : Nat} (h : k < 16) : MV.tup [.int 4, .int (k : Int), .int 0] = V (bitsC 4 k) := by
  obtain ⟨a, b⟩ := num4 k h
  unfold V
  rw [a, b, bitsC_len]; rfl
theorem add4 : ∀ k : Nat, k < 15 → addC (bitsC 4 (k : Int)) (bitsC 4 ((1 : Nat) : Int)) = bitsC 4 ((k + 1 : Nat) : Int) := by decide +kernel
theorem same4 : ∀ k : Nat, k < 12 → ∀ t : Nat, t < 12 → truthC [sameC (bitsC 4 (k : Int)) (bitsC 4 (t : Int))] = if k = t then 1 else 0 := by decide +kernel
structure Mq (σ0 σ : Hp) (cx st fr d dw : Addr) (fuel depth : Int) (xs : List MV) : Prop where
  s : Same [cx, fr] σ0 σ
  c : σ cx = some (fcO st fr d dw fuel depth)
  f : σ fr = some (.list xs)
section
variable {c : CX} {r : Nat} {σ σ0 : Hp} {Q E : MV → Hp → Prop} {t : Tk Q E} {cx st fr d dw : Addr} {fuel depth : Int} {xs : List MV}
theorem Mq.ne (m : Mq σ0 σ cx st fr d dw fuel depth xs) : cx ≠ fr := ne_of m.c m.f (by unfold fcO; simp)
theorem Mq.burn (m : Mq σ0 σ cx st fr d dw fuel depth xs) : Mq σ0 (σ.put cx (fcO st fr d dw (fuel - 1) depth)) cx st fr d dw (fuel - 1) depth xs :=
  ⟨m.s.trans (Same.put.mono (by simp)), put_eq, (put_ne (Ne.symm m.ne)).trans m.f⟩
theorem Mq.loc (m : Mq σ0 σ cx st fr d dw fuel depth xs) {σ' : Hp} {ys : List MV} (s : Same [fr] σ σ') (h : σ' fr = some (.list ys)) : Mq σ0 σ' cx st fr d dw fuel depth ys :=
  ⟨m.s.trans (s.mono (by simp)), s _ _ m.c (by simpa using m.ne), h⟩
theorem lk35 : ([(33, MV.ref st), (35, .ref fr), (57, .int 0), (59, .ref d), (60, .int fuel), (61, .int depth), (62, .ref dw)] : List (Nat × MV)).lookup 35 = some (.ref fr) := rfl
theorem ok4 (k : Nat) : Ok (bitsC 4 k) := bitsC_ok
theorem step_s {a : MV} {k : Nat} (hr : 14 ≤ r) (hf : 0 < fuel) (hk : k < 15) (m : Mq σ0 σ cx st fr d dw fuel depth [a, V (bitsC 4 k)]) (q : ∀ σ', Mq σ0 σ' cx st fr d dw (fuel - 1) depth [a, V (bitsC 4 (k + 1 : Nat))] → Q .none σ') :
    CS1 c.toCx r (.ref A.f_run_statement) [stepM, .ref cx] σ Q E t := by
  refine rs_set (by walk_at "om") m.c (fun z => by lia) fun _ => ?_
  have m1 := m.burn
  refine run_set_local (i := 1) (w := 4) (lo := 0) (by walk_at "om") (by decide) (by decide) (by decide) ?_
  refine ev_bin (by walk_at "om") ?_
  refine ev_local (i := 1) (by walk_at "om") m1.c lk35 m1.f rfl (by decide) ?_
  refine ev_const (by walk_at "om") ?_
  rw [show (MV.tup [.int 4, .int 1, .int 0]) = V (bitsC 4 ((1 : Nat) : Int)) from const4 (k := 1) (by decide)]
  refine binary_add (by walk_at "om") (ok4 k) (ok4 1) (by rw [bitsC_len]; decide) ?_
  rw [add4 k hk]
  refine ⟨_, bitsC 4 k, fr, _, _, rfl, ok4 _, ok4 _, by rw [bitsC_len]; decide, by rw [bitsC_len]; decide, m1.c, lk35, m1.f, rfl, fun σ' s h => ?_⟩
  rw [sliceC_all (by rw [bitsC_len]), putC_all (by rw [bitsC_len, bitsC_len])] at h
  exact q σ' (m1.loc s h)
theorem set_num {a b : MV} {u : List Nat} {i k : Nat} (hr : 14 ≤ r) (hf : 0 < fuel) (hk : k < 16) (m : Mq σ0 σ cx st fr d dw fuel depth xs) (hi : i ≤ 100) (hu : xs[i]? = some (V u)) (ok : Ok u) (hl : u.length = 4) (q : ∀ σ', Mq σ0 σ' cx st fr d dw (fuel - 1) depth (xs.set i (V (bitsC 4 k))) → Q .none σ') :
    CS1 c.toCx r (.ref A.f_run_statement) [.tup [.sym 74, lvM (.sym 34) 4 i, .tup [.sym 31, .int 4, .int (k : Int), .int 0], .none], .ref cx] σ Q E t := by
  refine rs_set (by walk_at "om") m.c (fun z => by lia) fun _ => ?_
  have m1 := m.burn
  refine run_set_local (i := i) (w := 4) (lo := 0) (by walk_at "om") hi (by decide) (by decide) ?_
  refine ev_const (by walk_at "om") ?_
  rw [const4 hk]
  refine ⟨_, u, fr, _, _, rfl, ok4 _, ok, by rw [bitsC_len]; decide, by lia, m1.c, lk35, m1.f, hu, fun σ' s h => ?_⟩
  rw [sliceC_all (by rw [bitsC_len]), putC_all (by rw [bitsC_len, hl])] at h
  exact q σ' (m1.loc s h)
theorem leave_s {a : MV} {k n : Nat} (hr : 14 ≤ r) (hf : 1 < fuel) (hk : k < 12) (hn : n < 12) (m : Mq σ0 σ cx st fr d dw fuel depth [a, V (bitsC 4 k)])
    (q0 : k = n → ∀ σ', Mq σ0 σ' cx st fr d dw (fuel - 1 - 1) depth [a, V (bitsC 4 k)] → Q (.int 7) σ') (q1 : k ≠ n → ∀ σ', Mq σ0 σ' cx st fr d dw (fuel - 1) depth [a, V (bitsC 4 k)] → Q .none σ') :
    CS1 c.toCx r (.ref A.f_run_statement) [leaveM n, .ref cx] σ Q E t := by
  refine rs_if (by walk_at "om") m.c (fun z => by lia) fun _ => ?_
  have m1 := m.burn
  refine is_true_s (by walk_at "om") ?_
  refine ev_bin (by walk_at "om") ?_
  refine ev_local (i := 1) (by walk_at "om") m1.c lk35 m1.f rfl (by decide) ?_
  refine ev_const (by walk_at "om") ?_
  rw [const4 (k := n) (by walk_at "om")]
  refine binary_eq (by walk_at "om") (ok4 k) (ok4 n) (by rw [bitsC_len, bitsC_len]) (by rw [bitsC_len]; decide) ?_
  refine ⟨_, rfl, (by intro x hx; have : x = sameC (bitsC 4 k) (bitsC 4 n) := by simpa using hx
                      rw [this]; exact sameC_lt), Nat.le_of_ble_eq_true rfl, ?_⟩
  rw [same4 k hk n hn]
  by_cases h : k = n
  · rw [if_pos h]
    refine ⟨true, rfl, ?_⟩
    exact rs_disable (by walk_at "om") m1.c (fun z => by lia) fun _ => q0 h _ m1.burn
  · rw [if_neg h]
    refine ⟨false, rfl, ?_⟩
    exact rs_none (by walk_at "om") (q1 h _ m1)
theorem loop_s {a : MV} {u : List Nat} {n : Nat} (hr : 24 ≤ r) (hf : 1000 < fuel) (hn : n < 12) (ok : Ok u) (hl : u.length = 4) (m : Mq σ0 σ cx st fr d dw fuel depth [a, V u])
    (q : ∀ σ' fuel', fuel - 100 ≤ fuel' → Mq σ0 σ' cx st fr d dw fuel' depth [a, V (bitsC 4 n)] → Q .none σ') : CS1 c.toCx r (.ref A.f_run_statement) [loopM n, .ref cx] σ Q E t := by
  refine rs_block (by walk_at "om") m.c (fun z => by lia) fun _ => ?_
  have m1 := m.burn
  refine run_block_s (by walk_at "om") ?_
  refine set_num (a := a) (b := a) (i := 1) (k := 0) (by walk_at "om") (by walk_at "om") (by decide) m1 (by decide) rfl ok hl fun σ2 m2 => .inl ⟨rfl, ?_⟩
  refine rs_forever (by walk_at "om") m2.c (fun z => by lia) fun _ => ?_
  have m3 := m2.burn
  refine run_forever_s (by walk_at "om") (fun j s => ∃ k, k ≤ n ∧ j = n - k ∧ ∃ fuel', fuel - 10 - 5 * k ≤ fuel' ∧ Mq σ0 s cx st fr d dw fuel' depth [a, V (bitsC 4 k)]) n ⟨0, by lia, by lia, _, by lia, m3⟩ ?_ ?_
  · rintro j s ⟨k, _, _, fuel', _, m⟩
    exact ⟨_, m.c, rfl⟩
  · rintro j s ⟨k, hk, rfl, fuel', hf', m⟩
    refine burn_s (by walk_at "om") m.c (fun z => by lia) fun _ => ?_
    have m4 := m.burn
    refine rs_block (by walk_at "om") m4.c (fun z => by lia) fun _ => ?_
    have m5 := m4.burn
    refine run_block_s (by walk_at "om") ?_
    refine leave_s (by walk_at "om") (by walk_at "om") (by walk_at "om") hn m5 (fun e σ6 m6 => .inr ⟨7, rfl, ?_⟩) (fun e σ6 m6 => .inl ⟨rfl, ?_⟩)
    · rw [if_neg (by decide)]
      refine .inr ⟨7, rfl, .inr ⟨7, rfl, ?_⟩⟩
      rw [if_pos rfl]
      subst e
      exact q _ _ (by walk_at "om") m6
    · refine step_s (by walk_at "om") (by walk_at "om") (by walk_at "om") m6 fun σ7 m7 => .inl ⟨rfl, .inl ⟨rfl, n - (k + 1), by lia, k + 1, by lia, rfl, _, by lia, m7⟩⟩
end
section
variable {c : CX} {r : Nat} {σ σ0 : Hp} {Q E : MV → Hp → Prop} {t : Tk Q E} {cx st fr d dw : Addr} {fuel depth : Int} {xs : List MV}
theorem xorC_ok {u v : List Nat} : Ok (xorC u v) := gen_ok fun i _ => by split <;> lia
theorem xorC_len {u v : List Nat} : (xorC u v).length = u.length := gen_len _ _
theorem more_s {dv sl : Addr} {v : List Nat} {vals wr : List (Int × MV)} {p : Nat} (hr : 12 ≤ r) (hf : 0 < fuel) (hp : p < 2) (h : σ cx = some (fcO st fr d dw fuel depth)) (hS : SigAt σ st dv sl 1 4) (hd : σ dv = some (.dI vals)) (hv : SigVal vals 1 4 v) (okv : Ok v) (hlv : v.length = 4) (hn : vals.length ≤ 900) (hw : σ dw = some (.dI wr)) (hnw : wr.length ≤ 900) (hne : dw ≠ dv)
    (q : ∀ σ', Same [cx, dv, dw] σ σ' → σ' cx = some (fcO st fr d dw (fuel - 1) depth) → σ' dv = some (.dI (newVals vals 1 v (xorC v (bitsC 4 (p : Int))))) → σ' dw = some (.dI (newWr wr 1 v (xorC v (bitsC 4 (p : Int))))) → Q .none σ') :
    CS1 c.toCx r (.ref A.f_run_statement) [moreM p, .ref cx] σ Q E t := by
  refine rs_set (by walk_at "om") h (fun z => by lia) fun _ => ?_
  have nd : dv ≠ cx := ne_of hd h (by unfold fcO; simp)
  have nw : dw ≠ cx := ne_of hw h (by unfold fcO; simp)
  have hS1 : SigAt (σ.put cx (fcO st fr d dw (fuel - 1) depth)) st dv sl 1 4 := by
    obtain ⟨⟨fs, a1, a2⟩, ⟨sigs, sg, gs, b1, b2, b3, b4⟩, hw, hk⟩ := hS
    have n : ∀ {b C fs}, σ b = some (.inst C fs) → C ≠ A.c_FunctionContext → b ≠ cx := fun {b C fs} e n z => by
      subst z; rw [h] at e; unfold fcO at e; simp only [Option.some.injEq, MObj.inst.injEq] at e; exact n e.1.symm
    exact ⟨⟨fs, (put_ne (n a1 (by decide))).trans a1, a2⟩, ⟨sigs, sg, gs, (put_ne (ne_of b1 h (by unfold fcO; simp))).trans b1, b2, (put_ne (n b3 (by decide))).trans b3, b4⟩, hw, hk⟩
  have hd1 : (σ.put cx (fcO st fr d dw (fuel - 1) depth)) dv = _ := (put_ne nd).trans hd
  have hw1 : (σ.put cx (fcO st fr d dw (fuel - 1) depth)) dw = _ := (put_ne nw).trans hw
  have hs0 : Same [cx] σ (σ.put cx (fcO st fr d dw (fuel - 1) depth)) := Same.put
  have hc1 : (σ.put cx (fcO st fr d dw (fuel - 1) depth)) cx = some (fcO st fr d dw (fuel - 1) depth) := put_eq
  generalize σ.put cx (fcO st fr d dw (fuel - 1) depth) = σ1 at *
  refine run_set_sig (k := 1) (w := 4) (st := st) (dv := dv) (dw := dw) (sl := sl) (by walk_at "om") (by decide) ?_
  refine ev_bin (by walk_at "om") ?_
  refine ev_sig (k := 1) (ww := 4) (by walk_at "om") hc1 (by rfl) hS1 hd1 hv ?_
  refine ev_const (by walk_at "om") ?_
  rw [const4 (k := p) (by walk_at "om")]
  refine binary_xor (by walk_at "om") okv (ok4 p) (by rw [hlv, bitsC_len]) ?_
  refine ⟨_, v, _, vals, wr, rfl, xorC_ok, okv, by rw [xorC_len, hlv], hlv, hc1, by rfl, by rfl, hS1, hd1, hv, hn, hw1, hnw, hne, fun σ' s h1 h2 => ?_⟩
  exact q σ' ((hs0.mono (by simp)).trans (s.mono (by simp))) (s _ _ hc1 (by simp [Ne.symm nd, Ne.symm nw])) h1 h2
theorem result_s {k : Nat} {a : MV} (hr : 12 ≤ r) (hf : 0 < fuel) (hk : k < 16) (m : Mq σ0 σ cx st fr d dw fuel depth [V (gen 4 fun _ => 3), V (bitsC 4 (k : Int))]) (q : ∀ σ', Mq σ0 σ' cx st fr d dw (fuel - 1) depth [V (bitsC 4 (k : Int)), V (bitsC 4 (k : Int))] → Q .none σ') :
    CS1 c.toCx r (.ref A.f_run_statement) [resultM, .ref cx] σ Q E t := by
  refine rs_set (by walk_at "om") m.c (fun z => by lia) fun _ => ?_
  have m1 := m.burn
  refine run_set_local (i := 0) (w := 4) (lo := 0) (by walk_at "om") (by decide) (by decide) (by decide) ?_
  refine ev_local (i := 1) (by walk_at "om") m1.c lk35 m1.f rfl (by decide) ?_
  refine ⟨_, (gen 4 fun _ => 3), fr, _, _, rfl, ok4 _, gen_ok fun _ _ => by decide, by rw [bitsC_len]; decide, by rw [gen_len]; decide, m1.c, lk35, m1.f, rfl, fun σ' s h => ?_⟩
  rw [sliceC_all (by rw [bitsC_len]), putC_all (by rw [bitsC_len, gen_len])] at h
  exact q σ' (m1.loc s h)
theorem body_s {dv sl : Addr} {v : List Nat} {vals wr : List (Int × MV)} {n p : Nat} (hr : 30 ≤ r) (hf : 2000 < fuel) (hn : n < 12) (hp : p < 2) (h : σ cx = some (fcO st fr d dw fuel depth)) (hfr : σ fr = some (.list (slotsX [4, 4]))) (hS : SigAt σ st dv sl 1 4) (hd : σ dv = some (.dI vals)) (hv : SigVal vals 1 4 v) (okv : Ok v) (hlv : v.length = 4) (hnv : vals.length ≤ 900) (hw : σ dw = some (.dI wr)) (hnw : wr.length ≤ 900) (hne : dw ≠ dv) (hfs : fr ≠ sl)
    (q : ∀ x σ' fuel', fuel - 200 ≤ fuel' → Same [cx, fr, dv, dw] σ σ' → σ' cx = some (fcO st fr d dw fuel' depth) → σ' fr = some (.list [V (bitsC 4 (n : Int)), V (bitsC 4 (n : Int))]) → σ' dv = some (.dI (newVals vals 1 v (xorC v (bitsC 4 (p : Int))))) → σ' dw = some (.dI (newWr wr 1 v (xorC v (bitsC 4 (p : Int))))) → Q x σ') :
    CS1 c.toCx r (.ref A.f_run_statement) [bodyM n p, .ref cx] σ Q E t := by
  have m0 : Mq σ σ cx st fr d dw fuel depth [V (gen 4 fun _ => 3), V (gen 4 fun _ => 3)] := ⟨Same.refl _ _, h, hfr⟩
  have nd : dv ≠ cx := ne_of hd h (by unfold fcO; simp)
  have nw : dw ≠ cx := ne_of hw h (by unfold fcO; simp)
  have fd : fr ≠ dv := ne_of hfr hd (by simp)
  have fw : fr ≠ dw := ne_of hfr hw (by simp)
  refine rs_block (by walk_at "om") m0.c (fun z => by lia) fun _ => ?_
  have m1 := m0.burn
  refine run_block_s (by walk_at "om") ?_
  refine loop_s (n := n) (by walk_at "om") (by walk_at "om") hn (gen_ok fun _ _ => by decide) (gen_len _ _) m1 fun σ2 fuel2 hf2 m2 => .inl ⟨rfl, ?_⟩
  have hS2 : SigAt σ2 st dv sl 1 4 := by
    obtain ⟨⟨fs, a1, a2⟩, ⟨sigs, sg, gs, b1, b2, b3, b4⟩, hw, hk⟩ := hS
    have n : ∀ {b C fs}, σ b = some (.inst C fs) → C ≠ A.c_FunctionContext → b ∉ [cx, fr] := fun {b C fs} e n z => by
      rcases (by simpa using z : b = cx ∨ b = fr) with z | z
      · subst z; rw [h] at e; unfold fcO at e; simp only [Option.some.injEq, MObj.inst.injEq] at e; exact n e.1.symm
      · subst z; rw [hfr] at e; cases e
    exact ⟨⟨fs, m2.s _ _ a1 (n a1 (by decide)), a2⟩, ⟨sigs, sg, gs, m2.s _ _ b1 (by simp [Ne.symm hfs, ne_of b1 h (by unfold fcO; simp)]), b2, m2.s _ _ b3 (n b3 (by decide)), b4⟩, hw, hk⟩
  refine more_s (p := p) (by walk_at "om") (by walk_at "om") hp m2.c hS2 (m2.s _ _ hd (by simp [nd, Ne.symm fd])) hv okv hlv hnv (m2.s _ _ hw (by simp [nw, Ne.symm fw])) hnw hne fun σ3 s3 hc3 hd3 hw3 => .inl ⟨rfl, ?_⟩
  have hf3 := s3 _ _ m2.f (by simp [fd, fw, Ne.symm m2.ne])
  have m3 : Mq σ3 σ3 cx st fr d dw (fuel2 - 1) depth [V (gen 4 fun _ => 3), V (bitsC 4 (n : Int))] := ⟨Same.refl _ _, hc3, hf3⟩
  refine result_s (a := .none) (by walk_at "om") (by walk_at "om") (by walk_at "om") m3 fun σ4 m4 => .inl ⟨rfl, ?_⟩
  exact q _ σ4 _ (by walk_at "om") (((m2.s.mono (by simp)).trans (s3.mono (by simp))).trans (m4.s.mono (by simp))) m4.c m4.f (m4.s _ _ hd3 (by simp [nd, Ne.symm fd])) (m4.s _ _ hw3 (by simp [nw, Ne.symm fw]))
end
structure RtAt (σ : Hp) (d rl : Addr) (n : Nat) (B : MV) (ws : List Nat) (ports : List MV) : Prop where
  d : dsgOk σ d rl
  r : ∃ rs rt fs sl pl, σ rl = some (.list rs) ∧ rs[n]? = some (.ref rt) ∧ σ rt = some (.inst A.c_Routine fs) ∧ fs.lookup 108 = some (.bool true) ∧ fs.lookup 66 = some B ∧ fs.lookup 67 = some (.ref sl) ∧ fs.lookup 68 = some (.ref pl) ∧
    σ sl = some (.list (ws.map fun (w : Nat) => MV.int (w : Int))) ∧ σ pl = some (.list ports)
  hn : n ≤ 1000
  hw : ∀ w ∈ ws, w ≤ 20
  hl : ws.length ≤ 50
theorem RtAt.same {σ σ' : Hp} {F : List Addr} {d rl : Addr} {n : Nat} {B : MV} {ws : List Nat} {ports : List MV} (h : RtAt σ d rl n B ws ports) (s : Same F σ σ') (hF : ∀ a ∈ F, ∀ o, σ a = some o → (∀ fs, o ≠ .inst A.c_Design fs) ∧ (∀ fs, o ≠ .inst A.c_Routine fs) ∧ ∀ xs, o ≠ .list xs) : RtAt σ' d rl n B ws ports := by
  obtain ⟨⟨gs, d1, d2⟩, ⟨rs, rt, fs, sl, pl, a1, a2, a3, a4, a5, a6, a7, a8, a9⟩, h3, h4, h5⟩ := h
  have nd : ∀ {b gs}, σ b = some (.inst A.c_Design gs) → b ∉ F := fun {b gs} e z => (hF b z _ e).1 gs rfl
  have nr : ∀ {b gs}, σ b = some (.inst A.c_Routine gs) → b ∉ F := fun {b gs} e z => (hF b z _ e).2.1 gs rfl
  have nl : ∀ {b xs}, σ b = some (.list xs) → b ∉ F := fun {b gs} e z => (hF b z _ e).2.2 gs rfl
  exact ⟨⟨gs, s _ _ d1 (nd d1), d2⟩, ⟨rs, rt, fs, sl, pl, s _ _ a1 (nl a1), a2, s _ _ a3 (nr a3), a4, a5, a6, a7, s _ _ a8 (nl a8), s _ _ a9 (nl a9)⟩, h3, h4, h5⟩
theorem RtAt.up {σ σ' : Hp} {d rl : Addr} {n : Nat} {B : MV} {ws : List Nat} {ports : List MV} (h : RtAt σ d rl n B ws ports) (s : Same [] σ σ') : RtAt σ' d rl n B ws ports := h.same s (by simp)
theorem RtAt.cx {σ σ' : Hp} {cx st fr dd dw : Addr} {fuel depth : Int} {d rl : Addr} {n : Nat} {B : MV} {ws : List Nat} {ports : List MV} (h : RtAt σ d rl n B ws ports) (hc : σ cx = some (fcO st fr dd dw fuel depth)) (s : Same [cx] σ σ') : RtAt σ' d rl n B ws ports := h.same s fun a ha o e => by
  have : a = cx := by simpa using ha
  subst this; rw [hc] at e; unfold fcO at e; cases e
  exact ⟨by simp only [ne_eq, MObj.inst.injEq, not_and]; intro _ h; exact absurd h (by decide), by simp only [ne_eq, MObj.inst.injEq, not_and]; intro _ h; exact absurd h (by decide), by simp⟩
section
variable {c : CX} {r : Nat} {σ σ0 : Hp} {Q E : MV → Hp → Prop} {t : Tk Q E} {cx st fr d dw rl : Addr} {fuel depth : Int} {n : Nat} {B : MV} {ws : List Nat}
theorem call0_s {ar : Addr} (hr : 6 ≤ r) (h : σ cx = some (fcO st fr d dw fuel depth)) (hdp : depth < 24) (hR : RtAt σ d rl n B ws [])
    (q : ∀ fr' σ1, σ cx ≠ none → Same [cx] σ σ1 → fr' ≠ cx → σ1 cx = some (fcO st fr' d dw fuel (depth + 1)) → CS1 c.toCx (r - 1) (.ref A.f_run_statement) [B, .ref cx] σ1
        (fun _ σ2 => ∃ fuel' xs v0, σ2 cx = some (fcO st fr' d dw fuel' (depth + 1)) ∧ σ2 fr' = some (.list (v0 :: xs)) ∧ Q v0 (σ2.put cx (fcO st fr d dw fuel' depth)))
        (fun x σ2 => ∃ fuel' e C fs', x = .ref e ∧ σ2 e = some (.exc C fs') ∧ σ2 cx = some (fcO st fr' d dw fuel' (depth + 1)) ∧ E x (σ2.put cx (fcO st fr d dw fuel' depth))) {}) :
    CS1 c.toCx r (.ref A.f_FunctionContext_call) [.ref cx, .int n, .ref ar] σ Q E t := by
  obtain ⟨hd, ⟨rs, rt, fs, sl, pl, a1, a2, a3, a4, a5, a6, a7, a8, a9⟩, h3, h4, h5⟩ := hR
  refine call_s (by walk_at "om") h hdp hd a1 a2 h3 a3 a4 a5 ?_
  refine new_frame0 (as := []) (by walk_at "om") a3 a6 a7 a8 a9 h4 h5 fun a ha => ?_
  have na : a ≠ cx := fun z => by rw [z, h] at ha; cases ha
  refine ⟨a, rfl, (put_ne (Ne.symm na)).trans h, (put_ne (ne_new a3 ha)).trans a3, ?_⟩
  exact q a _ (by rw [h]; simp) ((Same.new ha).trans Same.put) na put_eq
def Refuses (c : CX) (r : Nat) (cx st d dw : Addr) (B k : MV) : Prop := ∀ (σ : Hp) (fr : Addr) (fuel depth : Int) (Q E : MV → Hp → Prop) (t : Tk Q E), 10 ≤ fuel → σ cx = some (fcO st fr d dw fuel depth) →
  (∀ x σ' fuel' C a dd, fuel - 5 ≤ fuel' → Same [cx] σ σ' → σ' cx = some (fcO st fr d dw fuel' depth) → σ' x = some (excO C k a dd) → (C = A.c_LimitReached ∨ C = A.c_DesignError) → E (.ref x) σ') → CS1 c.toCx r (.ref A.f_run_statement) [B, .ref cx] σ Q E t
theorem late_refuses {lv e : MV} {xs : List MV} (hr : 5 ≤ r) : Refuses c r cx st d dw (.tup [.sym 74, lv, e, .tup xs]) (.sym 71) := by
  intro σ fr fuel depth Q E t hf h q
  refine rs_set (by walk_at "om") h (fun z => by lia) fun _ => ?_
  refine run_set_late (by walk_at "om") fun x hx => ?_
  have nx : cx ≠ x := fun z => by rw [← z, put_eq] at hx; cases hx
  exact q x _ (fuel - 1) _ _ _ (by walk_at "om") (Same.put.trans (Same.new hx)) ((put_ne nx).trans put_eq) put_eq (.inr rfl)
theorem block_refuses {tag : Nat} {rest : List MV} (ht : tag = 127 ∨ tag = 128 ∨ tag = 130 ∨ tag = 131 ∨ tag = 132 ∨ tag = 45 ∨ tag = 133 ∨ tag = 46) (hr : 8 ≤ r) : Refuses c r cx st d dw (.tup [.sym 75, .tup [.none, .tup (.sym tag :: rest)], .int (-1)]) (.sym 83) := by
  intro σ fr fuel depth Q E t hf h q
  refine rs_block (by walk_at "om") h (fun z => by lia) fun _ => ?_
  refine run_block_s (by walk_at "om") ?_
  refine rs_none (by walk_at "om") (.inl ⟨rfl, ?_⟩)
  refine rs_other ht (by walk_at "om") put_eq (fun z => by lia) fun _ x hx => ?_
  rw [put_put] at hx
  rw [put_put]
  have nx : cx ≠ x := fun z => by rw [← z, put_eq] at hx; cases hx
  exact q x _ (fuel - 1 - 1) _ _ _ (by walk_at "om") (Same.put.trans (Same.new hx)) ((put_ne nx).trans put_eq) put_eq (.inr rfl)
theorem refuse_s {k : MV} {ar : Addr} (hr : 8 ≤ r) (hf : 10 ≤ fuel) (h : σ cx = some (fcO st fr d dw fuel depth)) (hdp : depth < 24) (hR : RtAt σ d rl n B ws []) (hB : Refuses c (r - 2) cx st d dw B k)
    (q : ∀ σ' fuel', fuel - 5 ≤ fuel' → Same [cx] σ σ' → σ' cx = some (fcO st fr d dw fuel' depth) → Q k σ') : CS1 c.toCx r (.ref A.f__law_refused) [.ref cx, .int n, .ref ar] σ Q E t := by
  refine refused_s (by walk_at "om") h (by rfl) ?_
  refine call0_s (by walk_at "om") h hdp hR fun fr' σ1 _ s1 nf h1 => ?_
  refine hB σ1 fr' fuel (depth + 1) _ _ _ hf h1 fun x σ' fuel' C a dd hf' s2 h2 hx hC => ?_
  have nx : x ≠ cx := ne_of hx h2 (by unfold excO fcO; simp)
  exact ⟨fuel', x, _, _, rfl, hx, h2, x, C, k, a, dd, rfl, (put_ne nx).trans hx, hC, q _ fuel' hf' ((s1.trans s2).trans Same.put) put_eq⟩
noncomputable def selfM (n : Nat) : MV := .tup [.sym 74, lvM (.sym 34) 4 0, .tup [.sym 45, .int 4, .int n, .tup []], .none]
theorem self_s : ∀ (m r : Nat) (σ : Hp) (fr ar : Addr) (fuel depth : Int) (Q E : MV → Hp → Prop) (t : Tk Q E), 20 + 5 * m ≤ r → (24 ≤ depth + m ∧ (0 < m → depth + m = 24)) → σ cx = some (fcO st fr d dw fuel depth) → RtAt σ d rl n (selfM n) ws [] → 0 ≤ fuel →
    (∀ x σ' fuel', Same [cx] σ σ' → σ' cx = some (fcO st fr d dw fuel' depth) → σ' x = some (excO A.c_LimitReached (.sym (if (m : Int) ≤ fuel then 63 else 70)) (.int (-1)) (.sym 122)) → E (.ref x) σ') →
    CS1 c.toCx r (.ref A.f_FunctionContext_call) [.ref cx, .int n, .ref ar] σ Q E t
  | 0, r, σ, fr, ar, fuel, depth, Q, E, t, hr, hm, h, hR, hf, q => by
    refine call_deep (by walk_at "om") h (by walk_at "om") fun x hx => ?_
    have nx : cx ≠ x := fun z => by rw [← z, h] at hx; cases hx
    exact q x _ fuel (Same.new hx) ((put_ne nx).trans h) (by rw [put_eq, if_pos (by walk_at "om")])
  | m + 1, r, σ, fr, ar, fuel, depth, Q, E, t, hr, hm, h, hR, hf, q => by
    refine call0_s (by walk_at "om") h (by walk_at "om") hR fun fr' σ1 _ s1 nf h1 => ?_
    refine rs_set (by walk_at "om") h1 (fun z => fun x hx => ?_) fun hp => ?_
    · have nx : cx ≠ x := fun z => by rw [← z, h1] at hx; cases hx
      refine ⟨fuel, x, _, _, rfl, put_eq, (put_ne nx).trans h1, ?_⟩
      refine q x _ fuel ((s1.trans (Same.new hx)).trans Same.put) put_eq ?_
      rw [put_ne (Ne.symm nx), put_eq, if_neg (by walk_at "om")]
    · refine run_set_local (by walk_at "om") (by decide) (by decide) (by decide) ?_
      refine ev_call0 (by walk_at "om") put_eq fun a ha => ?_
      have na : cx ≠ a := fun z => by rw [← z, put_eq] at ha; cases ha
      refine self_s m _ _ fr' a (fuel - 1) (depth + 1) _ _ _ (by walk_at "om") (by walk_at "om") ((put_ne na).trans put_eq) ?_ (by walk_at "om") fun x σ2 fuel' s2 h2 hx => ?_
      · exact (((hR.cx h s1).cx h1 Same.put).up (Same.new ha))
      · have nx : x ≠ cx := ne_of hx h2 (by unfold excO fcO; simp)
        refine ⟨fuel', x, _, _, rfl, hx, h2, ?_⟩
        refine q x _ fuel' (((s1.trans Same.put).trans (Same.new ha)).trans (s2.trans Same.put)) put_eq ?_
        rw [put_ne nx, hx]
        by_cases e : ((m : Int)) ≤ fuel - 1
        · rw [if_pos e, if_pos (by walk_at "om")]
        · rw [if_neg e, if_neg (by walk_at "om")]
theorem endless_s {ar : Addr} {m : Nat} (hr : 60 ≤ r) (hm : m ≤ 6) (hd : 24 ≤ depth + m ∧ (0 < m → depth + m = 24)) (hf : 0 ≤ fuel) (h : σ cx = some (fcO st fr d dw fuel depth)) (hR : RtAt σ d rl n (selfM n) ws [])
    (q : ∀ σ' fuel', Same [cx] σ σ' → σ' cx = some (fcO st fr d dw fuel' depth) → Q (.sym (if (m : Int) ≤ fuel then 63 else 70)) σ') : CS1 c.toCx r (.ref A.f__law_refused) [.ref cx, .int n, .ref ar] σ Q E t := by
  refine refused_s (by walk_at "om") h (by rfl) ?_
  refine self_s m _ σ fr ar fuel depth _ _ _ (by walk_at "om") hd h hR hf fun x σ' fuel' s h' hx => ?_
  exact ⟨x, _, _, _, _, rfl, hx, .inl rfl, q σ' fuel' s h'⟩
end
structure Dsg (σ : Hp) (d rl : Addr) (rs : List MV) : Prop where
  d : ∃ fs, σ d = some (.inst A.c_Design fs) ∧ fs.lookup 113 = some (.ref rl) ∧ fs.lookup 64 = none ∧ fs.lookup 120 = none
  r : σ rl = some (.list rs)
theorem Dsg.up {σ σ' : Hp} {d rl : Addr} {rs : List MV} (h : Dsg σ d rl rs) (s : Same [] σ σ') : Dsg σ' d rl rs := by
  obtain ⟨⟨fs, a, b⟩, e⟩ := h
  exact ⟨⟨fs, s _ _ a (by simp), b⟩, s _ _ e (by simp)⟩
theorem Dsg.ok {σ : Hp} {d rl : Addr} {rs : List MV} (h : Dsg σ d rl rs) : dsgOk σ d rl := by
  obtain ⟨⟨fs, a, b, e, _⟩, _⟩ := h
  exact ⟨fs, a, b, e⟩
theorem Dsg.row {σ σ' : Hp} {d rl row : Addr} {rs : List MV} (h : Dsg σ d rl rs) (hr : RowOk σ row) (s : Same [row] σ σ') (hn : row ≠ rl) : Dsg σ' d rl rs := by
  obtain ⟨⟨fs, a, b⟩, e⟩ := h
  obtain ⟨ns, _, _, h1⟩ := hr
  exact ⟨⟨fs, s _ _ a (by simpa using ne_of a h1 (by simp)), b⟩, s _ _ e (by simpa using Ne.symm hn)⟩
theorem Dsg.cx {σ σ' : Hp} {cx st fr dd dw : Addr} {fuel depth : Int} {d rl : Addr} {rs : List MV} (h : Dsg σ d rl rs) (hc : σ cx = some (fcO st fr dd dw fuel depth)) (s : Same [cx] σ σ') : Dsg σ' d rl rs := by
  obtain ⟨⟨fs, a, b⟩, e⟩ := h
  have n1 : d ≠ cx := fun z => by
    subst z; rw [hc] at a; unfold fcO at a; simp only [Option.some.injEq, MObj.inst.injEq] at a; exact absurd a.1 (by decide)
  exact ⟨⟨fs, s _ _ a (by simpa using n1), b⟩, s _ _ e (by simpa using ne_of e hc (by unfold fcO; simp))⟩
theorem RowOk.up {σ σ' : Hp} {row : Addr} (h : RowOk σ row) (s : Same [] σ σ') : RowOk σ' row := row_ok_same h s (by simp)
theorem RowOk.cx {σ σ' : Hp} {row cx st fr dd dw : Addr} {fuel depth : Int} (h : RowOk σ row) (hc : σ cx = some (fcO st fr dd dw fuel depth)) (s : Same [cx] σ σ') : RowOk σ' row := row_ok_same h s (by
  obtain ⟨ns, _, _, h1⟩ := id h
  simpa using ne_of h1 hc (by unfold fcO; simp))
theorem listN {a : Addr} {rs : List MV} {σ : Hp} (h : σ a = some (.list rs)) {C fs b} (e : σ b = some (.inst C fs)) : b ≠ a := ne_of e h (by simp)
section
variable {c : CX} {r : Nat} {σ : Hp} {Q E : MV → Hp → Prop} {t : Tk Q E}
theorem fmod8 (n : Nat) (k : Nat) (hk : 0 < k) : ((n : Int).fmod (k : Int)) = ((n % k : Nat) : Int) := fmodN n k hk
theorem law_end {d rl st row : Addr} {rs : List MV} {x0 x3 x4 x5 x6 x7 x8 x9 x10 x12 x13 x14 x15 x16 x17 x18 x19 x20 x21 x22 x23 x24 x25 x26 x27 : Option MV} (hr : 80 ≤ r) (hD : Dsg σ d rl rs) (hl : rs.length ≤ 100) (hrow : RowOk σ row) (hne : row ≠ rl) (q : ∀ σ', Q (.bool true) σ') :
    swps Tb (CSf c.toCx) r M.law_8_29 [x0, some (.ref row), some (.ref d), x3, x4, x5, x6, x7, x8, x9, x10, some (.ref st), x12, x13, x14, x15, x16, x17, x18, x19, x20, x21, x22, x23, x24, x25, x26, x27] σ (retQ Q) (fun x _ σ1 => E x σ1) := by
  walk_at "st"
  refine next_s (by walk_at "om") hrow fun f σ1 hf s1 hrow1 => ?_
  have hD1 := hD.row hrow s1 hne
  walk_at "mini"
  rw [show (8 : Int) = ((8 : Nat) : Int) from rfl, fmodN f 8 (by decide)]
  have hf8 : f % 8 < 8 := Nat.mod_lt _ (by decide)
  generalize f % 8 = fu at *
  refine ⟨by decide, ?_⟩
  walk_at "st"
  refine next_s (by walk_at "om") hrow1 fun g σ2 hg s2 hrow2 => ?_
  have hD2 := hD1.row hrow1 s2 hne
  walk_at "mini"
  rw [show (6 : Int) = ((6 : Nat) : Int) from rfl, fmodN g 6 (by decide)]
  have hg6 : g % 6 < 6 := Nat.mod_lt _ (by decide)
  generalize g % 6 = dp at *
  refine ⟨by decide, ?_⟩
  walk_at "st"
  intro pl hpl
  walk_at "mini"
  intro sl hsl
  walk_at "mini"
  have hne2 : pl ≠ sl := fun z => by rw [← z, put_eq] at hsl; cases hsl
  have s3 : Same [] σ2 ((σ2.put pl (.list [])).put sl (.list [.int 4])) := (Same.new hpl).trans (Same.new hsl)
  have e1 : ((σ2.put pl (.list [])).put sl (.list [.int 4])) sl = some (.list [.int 4]) := put_eq
  have e2 : ((σ2.put pl (.list [])).put sl (.list [.int 4])) pl = some (.list []) := (put_ne hne2).trans put_eq
  generalize (σ2.put pl (.list [])).put sl (.list [.int 4]) = σ3 at *
  have hD3 := hD2.up s3
  have nlp : pl ≠ rl := fun z => by rw [z, hD2.r] at hpl; cases hpl
  have nls : sl ≠ rl := fun z => by rw [z, put_ne (Ne.symm nlp), hD2.r] at hsl; cases hsl
  obtain ⟨⟨fs, d1, d2, d3, d4⟩, d5⟩ := id hD3
  refine function_s (by walk_at "om") d1 d2 d4 d5 hl fun rt gs σ4 hrt s4 g1 g2 g3 g4 g5 g6 g7 => ?_
  walk_at "mini"
  have e1' := s4 _ _ e1 (by simpa using nls)
  have e2' := s4 _ _ e2 (by simpa using nlp)
  have d1' := s4 _ _ d1 (by simpa using listN d5 d1)
  walk_at "st"
  refine lv_s (by walk_at "om") ?_
  walk_at "mini"
  refine attr_i d1' (by rfl) d2 ?_
  walk_at "mini"
  refine item_l rs.length g7 rfl (by walk_at "om") List.getElem?_concat_length ?_
  walk_at "mini"
  refine seta_i g1 (by rfl) (g6.2 .none).2.2.2.2 ?_
  walk_at "mini"
  have hR : RtAt (σ4.put rt (.inst A.c_Routine (putN 66 (selfM rs.length) gs))) d rl rs.length (selfM rs.length) [4] [] :=
    ⟨⟨fs, (put_ne (ne_new d1 hrt)).trans d1', d2, d3⟩, ⟨_, rt, _, sl, pl, (put_ne (ne_new d5 hrt)).trans g7, List.getElem?_concat_length, put_eq, (g6.2 _).2.2.1, (g6.2 _).2.2.2.1, (g6.2 _).1, (g6.2 _).2.1, (put_ne (ne_new e1 hrt)).trans e1', (put_ne (ne_new e2 hrt)).trans e2'⟩, by lia, by simp, by simp⟩
  refine Eq.mp (congrArg (fun h => swps Tb (CSf c.toCx) r _ _ h (retQ Q) fun x _ σ1 => E x σ1) (show σ4.put rt (.inst A.c_Routine (putN 66 (selfM rs.length) gs)) = _ from rfl)) ?_
  generalize σ4.put rt (.inst A.c_Routine (putN 66 (selfM rs.length) gs)) = σ5 at *
  walk_at "st"
  intro ar har
  walk_at "mini"
  refine ctx5_s (by walk_at "om") fun cx dw σ6 hcx hdw s6 h6 w6 => ?_
  walk_at "mini"
  have hR6 := (hR.up (Same.new har)).up s6
  have f6 := s6 _ _ (put_eq (σ := σ5) (a := ar)) (by simp)
  walk_at "st"
  refine seta_i h6 (by rfl) (Nat.le_of_ble_eq_true rfl) ?_
  walk_at "mini"
  have hR7 := hR6.cx h6 (Same.put (σ := σ6) (a := cx) (o := fcO st ar d dw fu (20 + dp)))
  have naf : ar ≠ cx := ne_of f6 h6 (by unfold fcO; simp)
  have f7 : (σ6.put cx (fcO st ar d dw fu (20 + dp))) ar = _ := (put_ne naf).trans f6
  have h7 : (σ6.put cx (fcO st ar d dw fu (20 + dp))) cx = some (fcO st ar d dw fu (20 + dp)) := put_eq
  refine Eq.mp (congrArg (fun h => swps Tb (CSf c.toCx) r _ _ h (retQ Q) fun x _ σ1 => E x σ1) (show σ6.put cx (fcO st ar d dw fu (20 + dp)) = _ from rfl)) ?_
  generalize σ6.put cx (fcO st ar d dw fu (20 + dp)) = σ7 at *
  walk_at "st"
  intro al hal
  walk_at "mini"
  have h8 : (σ7.put al (.list [])) cx = _ := (put_ne (ne_new h7 hal)).trans h7
  have f8 : (σ7.put al (.list [])) ar = _ := (put_ne (ne_new f7 hal)).trans f7
  refine endless_s (m := 24 - (20 + dp)) (by walk_at "om") (by walk_at "om") (by walk_at "om") (by walk_at "om") h8 (hR7.up (Same.new hal)) fun σ9 fu9 s9 h9 => ?_
  walk_at "mini"
  have f9 : σ9 ar = some (.list []) := s9 _ _ f8 (by simpa using naf)
  have e : decide ((24 : Int) - (20 + (dp : Int)) ≤ (fu : Int)) = decide (((24 - (20 + dp) : Nat) : Int) ≤ (fu : Int)) := by rw [decide_eq_decide]; lia
  rw [e]
  by_cases hc : ((24 - (20 + dp) : Nat) : Int) ≤ (fu : Int)
  all_goals
    first
    | rw [decide_eq_true hc, if_pos rfl, if_pos hc]
    | rw [decide_eq_false hc, if_neg (by decide), if_neg hc]
    walk_at "mini"
    walk_at "st"
    refine attr_i h9 (by rfl) (by rfl) ?_
    walk_at "mini"
    simp only [decide_true]
    walk_at "mini"
    refine attr_i h9 (by rfl) (by rfl) ?_
    walk_at "mini"
    intro ae hae
    walk_at "mini"
    exact ⟨[], [], (put_ne (ne_new f9 hae)).trans f9, put_eq, ⟨rfl, rfl⟩, q _⟩
end
section
variable {c : CX} {r : Nat} {σ : Hp} {Q E : MV → Hp → Prop} {t : Tk Q E}
theorem fn_s {d rl pl sl : Addr} {rs : List MV} {B : MV} {ws : List Nat} {ports : List MV} (hr : 6 ≤ r) (hD : Dsg σ d rl rs) (hl : rs.length ≤ 100) (h1 : σ pl = some (.list ports)) (h2 : σ sl = some (.list (ws.map fun (w : Nat) => MV.int (w : Int)))) (n1 : pl ≠ rl) (n2 : sl ≠ rl) (hw : ∀ w ∈ ws, w ≤ 20) (hn : ws.length ≤ 50)
    (q : ∀ rt σ', σ rt = none → Same [rl] σ σ' → Dsg σ' d rl (rs ++ [.ref rt]) → RtAt σ' d rl rs.length B ws ports → Q (.int rs.length) σ') : CS1 c.toCx r (.ref A.f__law_function) [.ref d, B, .ref pl, .ref sl] σ Q E t := by
  obtain ⟨⟨fs, d1, d2, d3, d4⟩, d5⟩ := id hD
  refine function_s (by walk_at "om") d1 d2 d4 d5 hl fun rt gs σ4 hrt s4 g1 g2 g3 g4 g5 g6 g7 => ?_
  have d1' := s4 _ _ d1 (by simpa using listN d5 d1)
  exact q rt σ4 hrt s4 ⟨⟨fs, d1', d2, d3, d4⟩, g7⟩ ⟨⟨fs, d1', d2, d3⟩, ⟨_, rt, gs, sl, pl, g7, List.getElem?_concat_length, g1, g5, g2, g3, g4, s4 _ _ h2 (by simpa using n2), s4 _ _ h1 (by simpa using n1)⟩, by lia, hw, hn⟩
noncomputable def restM : List MV := [.tup [.sym 127, .tup [.sym 31, .int 4, .int 1, .int 0], .none], .tup [.sym 128, .tup [.tup [.sym 129, .tup [.sym 32, .int 4, .int 1]]], .none], .tup [.sym 130, .tup [.sym 31, .int 1, .int 1, .int 0], .none], .tup [.sym 131, lvM (.sym 32) 4 1, .tup [.sym 31, .int 4, .int 1, .int 0], .none], .tup [.sym 132, .int 0], .tup [.sym 45, .int 0, .tup [], .tup []], .tup [.sym 133, .tup [], .int (-1)], .tup [.sym 46, .sym 134, .tup []]]
theorem restM_ok : ∀ b ∈ restM, ∃ tag rest, b = .tup (.sym tag :: rest) ∧ (tag = 127 ∨ tag = 128 ∨ tag = 130 ∨ tag = 131 ∨ tag = 132 ∨ tag = 45 ∨ tag = 133 ∨ tag = 46) := by
  intro b hb
  unfold restM at hb
  simp only [List.mem_cons, List.not_mem_nil, or_false] at hb
  rcases hb with rfl | rfl | rfl | rfl | rfl | rfl | rfl | rfl
  all_goals exact ⟨_, _, rfl, by decide⟩
theorem body_refused {n : Nat} {d rl st row fr dw cx : Addr} {rs : List MV} {B : MV} {fuel : Int} {QS : Out → Loc → Hp → Prop} {ES : MV → Loc → Hp → Prop} {loc : Loc} {e : ME} {yes : List MS} (hr : 20 ≤ r) (h2 : loc[2]? = some (some (.ref d))) (h19 : loc[19]? = some (some (.ref cx))) (hD : Dsg σ d rl rs) (hl : rs.length ≤ 100) (hrow : RowOk σ row) (hnr : row ≠ rl) (hc : σ cx = some (fcO st fr d dw fuel 0)) (hf : 10 ≤ fuel)
    (he : ∀ (Q' E' : MV → Hp → Prop) s, Q' B s → ewp Tb (CSf c.toCx) r e loc s Q' E') (hB : Refuses c (r - 2) cx st d dw B (.sym n)) (q : ∀ σ' rt fuel', fuel - 5 ≤ fuel' → σ rt = none → Same [rl, cx] σ σ' → Dsg σ' d rl (rs ++ [.ref rt]) → RowOk σ' row → σ' cx = some (fcO st fr d dw fuel' 0) → QS .next loc σ') :
    swp Tb (CSf c.toCx) r (.ite (.cmp .NotEq (.call (.con (.ref A.f__law_refused)) [.loc 19, .call (.con (.ref A.f__law_function)) [.loc 2, e, .list [], .list [.int 4, .int 4]], .list []]) (.sym n)) yes []) loc σ QS ES := by
  rw [s_ite]
  simp only [t_cmp, e_call, e_con, es_cons, e_loc, h2, h19]
  walk_at "mini"
  refine he _ _ _ ?_
  intro pl hpl
  intro sl hsl
  have hne2 : pl ≠ sl := fun z => by rw [← z, put_eq] at hsl; cases hsl
  have s3 : Same [] σ ((σ.put pl (.list [])).put sl (.list [.int 4, .int 4])) := (Same.new hpl).trans (Same.new hsl)
  have e1 : ((σ.put pl (.list [])).put sl (.list [.int 4, .int 4])) sl = some (.list [.int 4, .int 4]) := put_eq
  have e2 : ((σ.put pl (.list [])).put sl (.list [.int 4, .int 4])) pl = some (.list []) := (put_ne hne2).trans put_eq
  generalize (σ.put pl (.list [])).put sl (.list [.int 4, .int 4]) = σ3 at *
  have nlp : pl ≠ rl := fun z => by rw [z, hD.r] at hpl; cases hpl
  have nls : sl ≠ rl := fun z => by rw [z, put_ne (Ne.symm nlp), hD.r] at hsl; cases hsl
  have hc3 := s3 _ _ hc (by simp)
  have nc : cx ≠ rl := ne_of hc hD.r (by unfold fcO; simp)
  refine fn_s (ws := [4, 4]) (by walk_at "om") (hD.up s3) hl e2 e1 nlp nls (by simp) (by simp) fun rt σ4 hrt s4 hD4 hR4 => ?_
  have hc4 := s4 _ _ hc3 (by simpa using nc)
  have hrow4 := row_ok_same (hrow.up s3) s4 (by simpa using hnr)
  intro al hal
  have sal : Same [] σ4 (σ4.put al (.list [])) := Same.new hal
  have hc5 := sal _ _ hc4 (by simp)
  refine refuse_s (by walk_at "om") hf hc5 (by decide) (hR4.up sal) hB fun σ6 fu6 hf6 s6 hc6 => ?_
  walk_at "mini"
  rw [if_neg (by simp)]
  have hrt' : σ rt = none := by
    cases e : σ rt with
    | none => rfl
    | some o => have := s3 _ _ e (by simp); rw [hrt] at this; cases this
  exact q σ6 rt fu6 hf6 hrt' (((s3.mono (by simp)).trans (s4.mono (by simp))).trans ((sal.mono (by simp)).trans (s6.mono (by simp)))) ((hD4.up sal).cx hc5 s6) ((hrow4.up sal).cx hc5 s6) hc6
set_option tactic.hygienic true in
theorem law_late {d rl st row fr dw cx : Addr} {rs : List MV} {fuel : Int} {x0 x3 x4 x5 x6 x7 x8 x9 x10 x12 x13 x14 x15 x16 x17 x18 x20 x21 x22 x23 x24 x25 x26 x27 : Option MV} (hr : 80 ≤ r) (hD : Dsg σ d rl rs) (hl : rs.length ≤ 50) (hrow : RowOk σ row) (hne : row ≠ rl) (hc : σ cx = some (fcO st fr d dw fuel 0)) (hf : 1000 ≤ fuel) (q : ∀ σ', Q (.bool true) σ') :
    swps Tb (CSf c.toCx) r M.law_8_26 [x0, some (.ref row), some (.ref d), x3, x4, x5, x6, x7, x8, x9, x10, some (.ref st), x12, x13, x14, x15, x16, x17, x18, some (.ref cx), x20, x21, x22, x23, x24, x25, x26, x27] σ (retQ Q) (fun x _ σ1 => E x σ1) := by
  walk_at "st"
  refine lv_s (by walk_at "om") ?_
  walk_at "mini"
  refine s_stepR (by assumption) rfl ?_
  intro rest hrest
  refine body_refused (B := .tup [.sym 74, lvM (.sym 34) 4 0, .tup [.sym 31, .int 4, .int 1, .int 0], .tup [.sym 127, .tup [.sym 31, .int 4, .int 1, .int 0]]]) (by walk_at "om") rfl rfl hD (by walk_at "om") hrow hne hc (by walk_at "om") (fun Q' E' s h => h) (late_refuses (by walk_at "om")) fun σ1 rt fuel1 hf1 hrt s1 hD1 hrow1 hc1 => ?_
  walk_at "mini"
  walk_at "st"
  refine for_rule (by walk_at "om") ?_
  walk_at "mini"
  refine lv_s (by walk_at "om") ?_
  walk_at "mini"
  intro la hla
  walk_at "mini"
  refine ⟨restM, put_eq, ?_⟩
  have hD2 := hD1.up (Same.new (o := .list restM) hla)
  have hrow2 := hrow1.up (Same.new (o := .list restM) hla)
  have hc2 := Same.new (F := []) (o := .list restM) hla _ _ hc1 (by simp)
  have e2 : (σ1.put la (.list restM)) la = some (.list restM) := put_eq
  have nla : la ≠ rl := fun z => by rw [z, hD1.r] at hla; cases hla
  refine Eq.mp (congrArg (fun h => forK Tb (CSf c.toCx) r _ _ _ _ _ h restM fun s => s la = some (.list restM)) (show σ1.put la (.list restM) = _ from rfl)) ?_
  generalize σ1.put la (.list restM) = σ2 at *
  refine ⟨fun rest l s => ∃ y24 rs' fuel', l = [x0, some (.ref row), some (.ref d), x3, x4, x5, x6, x7, x8, x9, x10, some (.ref st), x12, x13, x14, x15, x16, x17, x18, some (.ref cx), x20, x21, x22, some (.tup [.sym 74, lvM (.sym 34) 4 0, .tup [.sym 31, .int 4, .int 1, .int 0], .tup [.sym 127, .tup [.sym 31, .int 4, .int 1, .int 0]]]), y24, x25, x26, x27] ∧ (∀ b ∈ rest, b ∈ restM) ∧ s la = some (.list restM) ∧ Dsg s d rl rs' ∧ rs'.length + rest.length ≤ 60 ∧ RowOk s row ∧ s cx = some (fcO st fr d dw fuel' 0) ∧ 10 + 10 * rest.length ≤ fuel', ?_, ?_, ?_, ?_⟩
  · refine ⟨x24, _, fuel1, rfl, fun b hb => hb, e2, hD2, ?_, hrow2, hc2, ?_⟩
    · rw [List.length_append]; show rs.length + 1 + 8 ≤ 60; lia
    · show (10 + 10 * 8 : Int) ≤ _; lia
  · rintro rest l s ⟨_, _, _, _, _, h, _⟩; exact h
  · rintro x rest l s ⟨y24, rs', fuel', rfl, hm, h2, hD3, hl3, hrow3, hc3, hf3⟩
    simp only [List.length_cons] at hl3 hf3
    show setP _ _ _ _
    walk_at "mini"
    obtain ⟨tag, more, rfl, ht⟩ := restM_ok x (hm _ (.head _))
    refine s_last rfl ?_
    refine body_refused (B := .tup [.sym 75, .tup [.none, .tup (.sym tag :: more)], .int (-1)]) (by walk_at "om") rfl rfl hD3 (by walk_at "om") hrow3 hne hc3 (by walk_at "om") (fun Q' E' s h => by walk_at "mini"; exact h) (block_refuses ht (by walk_at "om")) fun σ4 rt fuel4 hf4 hrt4 s4 hD4 hrow4 hc4 => ?_
    have nlc : la ≠ cx := ne_of h2 hc3 (by unfold fcO; simp)
    refine ⟨_, _, fuel4, rfl, fun b hb => hm b (.tail _ hb), s4 _ _ h2 (by simp [nla, nlc]), hD4, ?_, hrow4, hc4, ?_⟩
    · rw [List.length_append]; simp only [List.length_cons, List.length_nil]; lia
    · lia
  · rintro l s ⟨y24, rs', fuel', rfl, hm, h2, hD3, hl3, hrow3, hc3, hf3⟩
    simp only [List.length_nil] at hl3
    rename_i hR
    show swps _ _ _ _ _ _ _ _
    rw [hR.h]
    exact law_end hr hD3 (by walk_at "om") hrow3 hne q
end
section
variable {c : CX} {r : Nat} {σ : Hp} {Q E : MV → Hp → Prop} {t : Tk Q E}
theorem SigAt.cx {σ σ' : Hp} {st dv sl cx s0 fr d dw : Addr} {k w : Nat} {fuel depth : Int} (h : SigAt σ st dv sl k w) (hc : σ cx = some (fcO s0 fr d dw fuel depth)) (s : Same [cx] σ σ') : SigAt σ' st dv sl k w := by
  obtain ⟨⟨fs, a1, a2⟩, ⟨sigs, sg, gs, b1, b2, b3, b4⟩, hw, hk⟩ := h
  have n : ∀ {b C fs}, σ b = some (.inst C fs) → C ≠ A.c_FunctionContext → b ∉ [cx] := fun {b C fs} e n z => by
    have : b = cx := by simpa using z
    subst this; rw [hc] at e; unfold fcO at e; simp only [Option.some.injEq, MObj.inst.injEq] at e; exact n e.1.symm
  exact ⟨⟨fs, s _ _ a1 (n a1 (by decide)), a2⟩, ⟨sigs, sg, gs, s _ _ b1 (by simpa using ne_of b1 hc (by unfold fcO; simp)), b2, s _ _ b3 (n b3 (by decide)), b4⟩, hw, hk⟩
theorem SigAt.two {σ σ' : Hp} {st dv sl dw : Addr} {k w : Nat} {v1 v2 : List (Int × MV)} (h : SigAt σ st dv sl k w) (s : Same [dv, dw] σ σ') (h1 : σ dv = some (.dI v1)) (h2 : σ dw = some (.dI v2)) : SigAt σ' st dv sl k w := by
  obtain ⟨⟨fs, a1, a2⟩, ⟨sigs, sg, gs, b1, b2, b3, b4⟩, hw, hk⟩ := h
  have n : ∀ {b o}, σ b = some o → (∀ l, o ≠ .dI l) → b ∉ [dv, dw] := fun {b o} e n z => by
    rcases (by simpa using z : b = dv ∨ b = dw) with z | z <;> subst z
    · rw [h1] at e; cases e; exact n _ rfl
    · rw [h2] at e; cases e; exact n _ rfl
  exact ⟨⟨fs, s _ _ a1 (n a1 (by simp)), a2⟩, ⟨sigs, sg, gs, s _ _ b1 (n b1 (by simp)), b2, s _ _ b3 (n b3 (by simp)), b4⟩, hw, hk⟩
theorem newVals_len {vals : List (Int × MV)} {k : Nat} {v new : List Nat} : (newVals vals k v new).length ≤ vals.length + 1 := by
  unfold newVals; split
  · lia
  · exact putI_len
theorem newWr_len {vals : List (Int × MV)} {k : Nat} {v new : List Nat} : (newWr vals k v new).length ≤ vals.length + 1 := by
  unfold newWr; split
  · lia
  · exact putI_len
theorem called_s {d rl st dv sl fr dw cx ar : Addr} {fuel : Int} {n tn p w : Nat} {sgn : Bool} {cs cf co : List Nat} {vals : List (Int × MV)} (hr : 40 ≤ r) (htn : tn < 12) (hp : p < 2) (hR : RtAt σ d rl n (bodyM tn p) [4, 4] [.tup [.sym 69, .int w, .bool sgn, .sym 32, .int (0 : Nat)]])
    (hc : σ cx = some (fcO st fr d dw fuel 0)) (hf : 3000 < fuel) (hS0 : SigAt σ st dv sl 0 w) (hS1 : SigAt σ st dv sl 1 4) (hd : σ dv = some (.dI vals)) (hv0 : SigVal vals 0 w cf) (hv1 : SigVal vals 1 4 co) (okf : Ok cf) (hlf : cf.length = w) (oko : Ok co) (hlo : co.length = 4) (hn : vals.length ≤ 100)
    (hw : σ dw = some (.dI [])) (hne : dw ≠ dv) (har : σ ar = some (.list [V cs])) (ok : Ok cs) (hl0 : 0 < cs.length) (hl : cs.length ≤ 20) (hw0 : w ≤ 20)
    (q : ∀ σ' fuel', fuel - 300 ≤ fuel' → Same [cx, dv, dw] σ σ' → σ' cx = some (fcO st fr d dw fuel' 0) → σ' dv = some (.dI (newVals (newVals vals 0 cf (extC cs w sgn)) 1 co (xorC co (bitsC 4 (p : Int))))) → σ' dw = some (.dI (newWr (newWr [] 0 cf (extC cs w sgn)) 1 co (xorC co (bitsC 4 (p : Int))))) → Q (V (bitsC 4 (tn : Int))) σ') :
    CS1 c.toCx r (.ref A.f_FunctionContext_call) [.ref cx, .int n, .ref ar] σ Q E t := by
  obtain ⟨hD, ⟨rs, rt, fs, wl, pl, a1, a2, a3, a4, a5, a6, a7, a8, a9⟩, h3, h4, h5⟩ := hR
  have ncd : cx ≠ dv := ne_of hc hd (by unfold fcO; simp)
  have ncw : cx ≠ dw := ne_of hc hw (by unfold fcO; simp)
  refine call_s (by walk_at "om") hc (by decide) hD a1 a2 h3 a3 a4 a5 ?_
  refine new_frame1 (ws := [4, 4]) (k := 0) (w := w) (by walk_at "om") hc a3 a6 a7 a8 a9 har h4 (by simp) hS0 hd hv0 okf hlf (by walk_at "om") hw (by simp) hne ok hl0 hl hw0 fun fr' σ1 hfr s1 hd1 hw1 e1 => ?_
  have hc1 := s1 _ _ hc (by simp [ncd, ncw])
  have a3' := s1 _ _ a3 (by simp [ne_of a3 hd, ne_of a3 hw])
  refine ⟨fr', rfl, hc1, a3', ?_⟩
  have hS1' := hS1.two s1 hd hw
  have nfc : fr' ≠ cx := ne_of e1 hc1 (by unfold fcO; simp)
  have nfs : fr' ≠ sl := fun z => by
    obtain ⟨_, ⟨sigs, sg, gs, b1, _⟩, _⟩ := hS1
    rw [z, b1] at hfr; cases hfr
  have s2 : Same [cx] σ1 (σ1.put cx (fcO st fr' d dw fuel (0 + 1))) := Same.put
  have hS2 := hS1'.cx hc1 s2
  have hc2 : (σ1.put cx (fcO st fr' d dw fuel (0 + 1))) cx = some (fcO st fr' d dw fuel (0 + 1)) := put_eq
  have hd2 := s2 _ _ hd1 (by simpa using Ne.symm ncd)
  have hw2 := s2 _ _ hw1 (by simpa using Ne.symm ncw)
  have e2 := s2 _ _ e1 (by simpa using nfc)
  have nfd : fr' ≠ dv := ne_of e1 hd1 (by simp)
  have nfw : fr' ≠ dw := ne_of e1 hw1 (by simp)
  generalize σ1.put cx (fcO st fr' d dw fuel (0 + 1)) = σ2 at *
  refine body_s (n := tn) (p := p) (sl := sl) (by walk_at "om") (by walk_at "om") htn hp hc2 e2 hS2 hd2 (sigVal_other hv1 (by decide)) oko hlo (by have := newVals_len (vals := vals) (k := 0) (v := cf) (new := extC cs w sgn); lia) hw2 (by have := newWr_len (vals := []) (k := 0) (v := cf) (new := extC cs w sgn); simp at this; lia) hne nfs fun x σ3 fuel3 hf3 s3 hc3 e3 hd3 hw3 => ?_
  refine ⟨fuel3, _, _, hc3, e3, ?_⟩
  have hS : Same [cx, dv, dw] σ σ3 := fun b o e nb => by
    have n1 : b ≠ fr' := fun z => by rw [z, hfr] at e; cases e
    simp only [List.mem_cons, List.not_mem_nil, or_false, not_or] at nb
    exact s3 _ _ (s2 _ _ (s1 _ _ e (by simp [nb])) (by simp [nb])) (by simp [nb, n1])
  exact q _ fuel3 (by walk_at "om") (hS.trans (Same.put.mono (by simp))) put_eq ((put_ne (Ne.symm ncd)).trans hd3) ((put_ne (Ne.symm ncw)).trans hw3)
end
theorem at0_cons {x : Nat} {xs : List Nat} {i : Nat} : at0 (x :: xs) (i + 1) = at0 xs i := rfl
theorem gen_ext {w : Nat} {f g : Nat → Nat} (h : ∀ i, i < w → f i = g i) : gen w f = gen w g := by
  unfold gen
  exact List.map_congr_left fun i hi => h i (by simpa using hi)
theorem due_eq {cs : List Nat} {w : Nat} {sgn : Bool} (h : Ok cs) (x : Nat) (hx : x = if sgn then at0 cs (cs.length - 1) else 0) : (cs ++ List.replicate w x).take w = extC cs w sgn := by
  rw [show extC cs w sgn = (List.range w).map (fun i => if i < cs.length then at0 cs i else if sgn then at0 cs (cs.length - 1) else 0) from rfl]
  apply List.ext_getElem
  · simp
  · intro i h1 h2
    have h2' : i < w := by simpa using h2
    rw [List.getElem_take, List.getElem_append, List.getElem_map, List.getElem_range]
    by_cases e : i < cs.length
    · rw [dif_pos e, if_pos e]
      unfold at0
      rw [List.getElem?_eq_getElem e]
      rfl
    · rw [dif_neg e, if_neg e, List.getElem_replicate, hx]
noncomputable def norm2 (b : Nat) : Nat := if 1 < b then 3 else b
theorem later_eq {co : List Nat} {tn : Nat} (h : Ok co) (hl : co.length = 4) : xorC co (bitsC 4 ((tn % 2 : Nat) : Int)) = (co.map norm2).set 0 (if norm2 (at0 co 0) = 3 then 3 else (norm2 (at0 co 0) + tn) % 2) := by
  match co, hl with
  | [a, b, c, d], _ =>
    have ha : a < 4 := h a (by simp)
    have hb : b < 4 := h b (by simp)
    have hc : c < 4 := h c (by simp)
    have hd : d < 4 := h d (by simp)
    have e : bitsC 4 ((tn % 2 : Nat) : Int) = [tn % 2, 0, 0, 0] := by
      have : tn % 2 < 2 := Nat.mod_lt _ (by decide)
      have k : ∀ p : Nat, p < 2 → bitsC 4 (p : Int) = [p, 0, 0, 0] := by decide +kernel
      exact k _ this
    rw [e]
    have g0 : ∀ a, a < 4 → (if a < 2 ∧ (0 : Nat) < 2 then (a + 0) % 2 else 3) = norm2 a := by decide +kernel
    have g1 : (if a < 2 ∧ tn % 2 < 2 then (a + tn % 2) % 2 else 3) = if norm2 a = 3 then 3 else (norm2 a + tn) % 2 := by
      unfold norm2
      have : tn % 2 < 2 := Nat.mod_lt _ (by decide)
      by_cases q : 1 < a
      · rw [if_pos q, if_pos rfl, if_neg (by walk_at "om")]
      · rw [if_neg q, if_pos ⟨by lia, this⟩, if_neg (by walk_at "om")]; lia
    show [_, _, _, _] = [_, _, _, _]
    have k0 : at0 [a, b, c, d] 0 = a := rfl
    rw [k0, ← g1, ← g0 b hb, ← g0 c hc, ← g0 d hd]
    rfl
theorem beqs_num : ∀ {a b : List Nat}, beqs (numL a) (numL b) = decide (a = b)
  | [], [] => rfl
  | [], _ :: _ => rfl
  | _ :: _, [] => rfl
  | x :: a, y :: b => by
    show (decide ((x : Int) = (y : Int)) && beqs (numL a) (numL b)) = _
    rw [beqs_num (a := a) (b := b)]
    by_cases e : x = y
    · simp [e]
    · have e' : ¬ ((x : Int) = y) := by lia
      simp [e, e']
section
variable {c : CX} {r : Nat} {σ : Hp} {Q E : MV → Hp → Prop} {t : Tk Q E}
theorem repl1 {n : Nat} {x : Nat} : (List.replicate n [MV.int (x : Int)]).flatten = numL (List.replicate n x) := by
  induction n with
  | zero => rfl
  | succ n ih => rw [List.replicate_succ, List.flatten_cons, ih, List.replicate_succ]; rfl
theorem due_step {la : Addr} {wd : Nat} {sgn : Bool} {cs : List Nat} {K : MV → Hp → Prop} {x : Int} (ok : Ok cs) (hl : cs.length ≤ 20) (hwd : wd ≤ 20) (ha : σ la = some (.list (numL cs))) (hx : x = ((if sgn then at0 cs (cs.length - 1) else 0 : Nat) : Int)) (q : ∀ a σ', σ a = none → Same [] σ σ' → σ' a = some (.list (numL (extC cs wd sgn))) → K (.ref a) σ') :
    newP (.list [.int x]) σ fun va σ1 => binP .Mult va (.int wd) σ1 fun vb σ2 => binP .Add (.ref la) vb σ2 fun o σ3 => sliceP o .none (.int wd) σ3 K := by
  subst hx
  intro a1 h1
  refine ⟨_, put_eq, by lia, by lia, ?_, ?_⟩
  · simp; lia
  rw [Int.toNat_natCast, repl1]
  intro a2 h2
  have s2 : Same [] σ ((σ.put a1 (.list [.int ((if sgn then at0 cs (cs.length - 1) else 0 : Nat) : Int)])).put a2 (.list (numL (List.replicate wd (if sgn then at0 cs (cs.length - 1) else 0))))) := (Same.new h1).trans (Same.new h2)
  have e2 := put_eq (σ := σ.put a1 (.list [.int ((if sgn then at0 cs (cs.length - 1) else 0 : Nat) : Int)])) (a := a2) (o := .list (numL (List.replicate wd (if sgn then at0 cs (cs.length - 1) else 0))))
  generalize (σ.put a1 (.list [.int ((if sgn then at0 cs (cs.length - 1) else 0 : Nat) : Int)])).put a2 (.list (numL (List.replicate wd (if sgn then at0 cs (cs.length - 1) else 0)))) = σ2 at *
  refine ⟨_, _, s2 _ _ ha (by simp), e2, ?_, ?_⟩
  · rw [ints_len, ints_len, List.length_replicate]; unfold lineL; lia
  rw [← ints_app]
  intro a3 h3
  refine sl_to put_eq ?_ (by lia) fun a4 h4 => ?_
  · rw [ints_len, List.length_append, List.length_replicate]; unfold lineL; lia
  have e4 : (numL (cs ++ List.replicate wd (if sgn then at0 cs (cs.length - 1) else 0))).take (wd : Int).toNat = numL (extC cs wd sgn) := by
    rw [Int.toNat_natCast, ← due_eq ok _ rfl]; simp [numL, List.map_take]
  rw [e4]
  have s4 := (s2.trans (Same.new (F := []) h3)).trans (Same.new (F := []) (o := .list (numL (extC cs wd sgn))) h4)
  refine q a4 _ ?_ s4 put_eq
  cases e : σ a4 with
  | none => rfl
  | some o => exact absurd ((s2.trans (Same.new (F := []) h3)) _ _ e (by simp)) (by rw [h4]; simp)
theorem unrC_norm {loc : Loc} {st : Hp → Prop} {Q : MV → Hp → Prop} (hl : loc.length = 28) : ∀ (ns acc : List Nat) (s : Hp), st s → acc.length + ns.length ≤ 100 → newP (.list (numL (acc ++ ns.map norm2))) s Q →
    unrC Tb (CSf c.toCx) r (.ite (.cmp .Gt (.loc 27) (.int 1)) (.int 3) (.loc 27)) [27] true [] loc Q st (numL ns) (numL acc) s
  | [], acc, s, hs, hn, q => by
    simp only [List.map_nil, List.append_nil] at q
    exact ⟨⟨hs, by rw [ints_len]; unfold lineL; simp at hn; lia⟩, q⟩
  | n :: ns, acc, s, hs, hn, q => by
    refine ⟨⟨hs, by rw [ints_len]; unfold lineL; simp at hn; lia⟩, fun i hi => by simp at hi; lia, ?_⟩
    walk_at "mini"
    rw [List.getElem?_set, if_pos rfl, if_pos (by walk_at "om")]
    walk_at "mini"
    have k : ∀ m : Nat, norm2 n = m → unrC Tb (CSf c.toCx) r (.ite (.cmp .Gt (.loc 27) (.int 1)) (.int 3) (.loc 27)) [27] true [] loc Q st (numL ns) (numL acc ++ [.int (m : Int)]) s := fun m hm => by
      have := unrC_norm hl ns (acc ++ [norm2 n]) s hs (by simp at hn ⊢; lia) (by simpa using q)
      rw [ints_app, hm] at this
      exact this
    by_cases h : (1 : Int) < (n : Int)
    · rw [decide_eq_true h, if_pos rfl]
      exact k 3 (by unfold norm2; rw [if_pos (by walk_at "om")])
    · rw [decide_eq_false h, if_neg (by decide)]
      exact k n (by unfold norm2; rw [if_neg (by walk_at "om")])
noncomputable def keysN (cf due co later : List Nat) : List Nat := (if due = cf then [] else [0]) ++ (if later = co then [] else [1])
theorem wr_keys {cf due co later : List Nat} : (newWr (newWr [] 0 cf due) 1 co later).map (·.1) = (keysN cf due co later).map fun n : Nat => (n : Int) := by
  unfold newWr keysN
  by_cases h : due = cf <;> by_cases k : later = co <;> simp [h, k, putI]
theorem sorted_eq {cf due co later : List Nat} {ns : List Int} (h : ns.Perm ((keysN cf due co later).map fun n : Nat => (n : Int))) (p : ns.Pairwise (· ≤ ·)) : ns.map MV.int = numL (keysN cf due co later) := by
  unfold keysN at *
  by_cases e : due = cf <;> by_cases k : later = co <;> simp only [e, k, if_true, if_false, ite_true, ite_false, List.nil_append, List.append_nil, List.cons_append, List.map_cons, List.map_nil] at h ⊢
  · rw [List.perm_nil] at h; subst h; rfl
  · rw [List.perm_singleton] at h; subst h; rfl
  · rw [List.perm_singleton] at h; subst h; rfl
  · have hl := h.length_eq
    match ns, hl with
    | [a, b], _ =>
      have h0 : (0 : Int) ∈ [a, b] := h.mem_iff.mpr (by simp)
      have h1 : (1 : Int) ∈ [a, b] := h.mem_iff.mpr (by simp)
      have hp : a ≤ b := by simpa using p
      simp only [List.mem_cons, List.not_mem_nil, or_false] at h0 h1
      have : a = 0 ∧ b = 1 := by lia
      obtain ⟨rfl, rfl⟩ := this
      rfl
theorem Dsg.ls {σ σ' : Hp} {d rl a : Addr} {rs xs : List MV} (h : Dsg σ d rl rs) (e : σ a = some (.list xs)) (s : Same [a] σ σ') (hn : a ≠ rl) : Dsg σ' d rl rs := by
  obtain ⟨⟨fs, k, b⟩, z⟩ := h
  exact ⟨⟨fs, s _ _ k (by simpa using ne_of k e (by simp)), b⟩, s _ _ z (by simpa using Ne.symm hn)⟩
theorem run_rest {a b : List MS} {loc : Loc} {QS : Out → Loc → Hp → Prop} {ES : MV → Loc → Hp → Prop} (q : swps Tb (CSf c.toCx) r b loc σ QS ES) (h : Rest a b) : swps Tb (CSf c.toCx) r a loc σ QS ES := by
  rw [h.h]; exact q
theorem ne_V {cs : List Nat} {B : Bool → Prop} (ok : Ok cs) (q : B false) : cmpP .NotEq (V cs) (V cs) σ B := by
  have e := V_beq ok ok rfl
  have dt := V_data cs
  unfold V at *
  rw [cmp_nt, e]
  exact ⟨⟨dt, dt⟩, by simpa using q⟩
theorem one_key {K : MV → Hp → Prop} {b : Bool} {xs : List MV} (q : ∀ a σ', Same [] σ σ' → σ' a = some (.list (if b then xs else [])) → K (.ref a) σ') : if b = true then newP (.list xs) σ K else newP (.list []) σ K := by
  cases b
  · rw [if_neg (by decide)]; exact fun a ha => q a _ (Same.new ha) put_eq
  · rw [if_pos rfl]; exact fun a ha => q a _ (Same.new ha) put_eq
set_option tactic.hygienic true in
theorem law_keys {d rl st dv sl row fr dw cx a20 a21 lb lc : Addr} {rs : List MV} {fuel : Int} {wd : Nat} {cf co due later : List Nat} {vs : List (Int × MV)} {x0 x3 x4 x5 x8 x9 x10 x12 x13 x14 x15 x16 x17 x18 x22 x23 x24 x25 x26 x27 : Option MV} (hr : 80 ≤ r) (hD : Dsg σ d rl rs) (hl : rs.length ≤ 50) (hrow : RowOk σ row) (hne : row ≠ rl) (hc : σ cx = some (fcO st fr d dw fuel 0)) (hf : 1000 ≤ fuel)
    (okd : Ok due) (hld : due.length = wd) (hlf : cf.length = wd) (okl : Ok later) (hll : later.length = 4) (hlo : co.length = 4) (hwd : wd ≤ 20)
    (hb : σ lb = some (.list (numL cf))) (hco : σ lc = some (.list (numL co))) (h20 : σ a20 = some (.list (numL due))) (h21 : σ a21 = some (.list (numL later))) (hS0 : SigAt σ st dv sl 0 wd) (hS1 : SigAt σ st dv sl 1 4)
    (hd : σ dv = some (.dI vs)) (hv0 : SigVal vs 0 wd due) (hv1 : SigVal vs 1 4 later) (hw : σ dw = some (.dI (newWr (newWr [] 0 cf due) 1 co later))) (q : ∀ σ', Q (.bool true) σ') :
    swps Tb (CSf c.toCx) r M.law_8_24 [x0, some (.ref row), some (.ref d), x3, x4, x5, some (.ref lb), some (.ref lc), x8, x9, x10, some (.ref st), x12, x13, x14, x15, x16, x17, x18, some (.ref cx), some (.ref a20), some (.ref a21), x22, x23, x24, x25, x26, x27] σ (retQ Q) (fun x _ σ1 => E x σ1) := by
  walk_at "st"
  rename_i rest hrest
  have key : ∀ (a : Addr) (s : Hp), Same [] σ s → s a = some (.list (numL (keysN cf due co later))) → swps Tb (CSf c.toCx) r rest [x0, some (.ref row), some (.ref d), x3, x4, x5, some (.ref lb), some (.ref lc), x8, x9, x10, some (.ref st), x12, x13, x14, x15, x16, x17, x18, some (.ref cx), some (.ref a20), some (.ref a21), some (.ref a), x23, x24, x25, x26, x27] s (retQ Q) (fun x _ σ1 => E x σ1) := by
    intro a22 σ1 s1 h22
    rw [hrest.h]
    have hD1 := hD.up s1
    have hrow1 := hrow.up s1
    have hc1 := s1 _ _ hc (by simp)
    have hS01 := hS0.up s1
    have hS11 := hS1.up s1
    have hd1 := s1 _ _ hd (by simp)
    have hw1 := s1 _ _ hw (by simp)
    have h201 := s1 _ _ h20 (by simp)
    have h211 := s1 _ _ h21 (by simp)
    clear hrest rest hb hco hS0 hS1 hd hw hc hrow hD h20 h21 s1
    walk_at "st"
    obtain ⟨⟨gs, a1, a2, a3, a4, a5⟩, _⟩ := id hS01
    refine meth_i a1 (by rfl) a4 ?_
    walk_at "mini"
    refine get_s due (by walk_at "om") hS01 hd1 hv0 ?_
    walk_at "mini"
    refine made_s (by walk_at "om") h201 okd (by walk_at "om") ?_
    walk_at "mini"
    refine ne_V okd ?_
    walk_at "mini"
    refine meth_i a1 (by rfl) a4 ?_
    walk_at "mini"
    refine get_s later (by walk_at "om") hS11 hd1 hv1 ?_
    walk_at "mini"
    refine made_s (by walk_at "om") h211 okl (by walk_at "om") ?_
    walk_at "mini"
    refine ne_V okl ?_
    walk_at "mini"
    refine attr_i hc1 (by rfl) (by rfl) ?_
    walk_at "mini"
    refine sorted_s (by walk_at "om") hw1 (by have h1 := newWr_len (vals := newWr [] 0 cf due) (k := 1) (v := co) (new := later); have h2 := newWr_len (vals := []) (k := 0) (v := cf) (new := due); simp at h2; lia) fun a' ns ha' hp hs => ?_
    rw [wr_keys] at hp
    rw [sorted_eq hp hs]
    walk_at "mini"
    refine ⟨_, _, put_eq, (put_ne (ne_new h22 ha')).trans h22, ⟨isDatas_ints _, isDatas_ints _⟩, ?_⟩
    rw [beqs_num, decide_eq_true rfl]
    walk_at "mini"
    have s9 : Same [] σ1 (σ1.put a' (.list (numL (keysN cf due co later)))) := Same.new ha'
    exact run_rest (law_late hr (hD1.up s9) hl (hrow1.up s9) hne (s9 _ _ hc1 (by simp)) hf q) (by assumption)
  refine ⟨_, _, h20, hb, ⟨isDatas_ints _, isDatas_ints _⟩, ?_⟩
  rw [beqs_num]
  refine one_key fun a1 σ1 s1 e1 => ?_
  refine ⟨_, _, s1 _ _ h21 (by simp), s1 _ _ hco (by simp), ⟨isDatas_ints _, isDatas_ints _⟩, ?_⟩
  rw [beqs_num]
  refine one_key fun a2 σ2 s2 e2 => ?_
  refine ⟨_, _, s2 _ _ e1 (by simp), e2, ?_, fun a3 h3 => ?_⟩
  · unfold lineL; (repeat' split) <;> decide
  · refine key a3 _ ((s1.trans s2).trans (Same.new h3)) ?_
    rw [put_eq]
    unfold keysN
    by_cases h : due = cf <;> by_cases k : later = co <;> simp [h, k, numL]
set_option tactic.hygienic true in
theorem law_cmp {d rl st dv sl row fr dw cx la lb lc : Addr} {rs : List MV} {fuel : Int} {wd tn : Nat} {sgn : Bool} {cs cf co : List Nat} {x0 x9 x10 x12 x13 x14 x15 x16 x17 x18 x20 x21 x22 x23 x24 x25 x26 x27 : Option MV} (hr : 80 ≤ r) (hD : Dsg σ d rl rs) (hl : rs.length ≤ 50) (hrow : RowOk σ row) (hne : row ≠ rl) (hc : σ cx = some (fcO st fr d dw fuel 0)) (hf : 1000 ≤ fuel)
    (ok1 : Ok cs) (hl0 : 0 < cs.length) (hl1 : cs.length ≤ 20) (okf : Ok cf) (hlf : cf.length = wd) (oko : Ok co) (hlo : co.length = 4) (hwd : wd ≤ 20)
    (ha : σ la = some (.list (numL cs))) (hb : σ lb = some (.list (numL cf))) (hco : σ lc = some (.list (numL co))) (htn : tn < 12) (hS0 : SigAt σ st dv sl 0 wd) (hS1 : SigAt σ st dv sl 1 4) 
    (hd : σ dv = some (.dI (newVals (newVals vals 0 cf (extC cs wd sgn)) 1 co (xorC co (bitsC 4 ((tn % 2 : Nat) : Int)))))) (hv0 : SigVal vals 0 wd cf) (hv1 : SigVal vals 1 4 co) (hw : σ dw = some (.dI (newWr (newWr [] 0 cf (extC cs wd sgn)) 1 co (xorC co (bitsC 4 ((tn % 2 : Nat) : Int))))))
    (q : ∀ σ', Q (.bool true) σ') :
    swps Tb (CSf c.toCx) r M.law_8_21 [x0, some (.ref row), some (.ref d), some (.int wd), some (.bool sgn), some (.ref la), some (.ref lb), some (.ref lc), some (.int tn), x9, x10, some (.ref st), x12, x13, x14, x15, x16, x17, x18, some (.ref cx), x20, x21, x22, x23, x24, x25, x26, x27] σ (retQ Q) (fun x _ σ1 => E x σ1) := by
  walk_at "st"
  rename_i rest hrest
  have key : ∀ (a : Addr) (s : Hp), σ a = none → Same [] σ s → s a = some (.list (numL (extC cs wd sgn))) → swps Tb (CSf c.toCx) r rest [x0, some (.ref row), some (.ref d), some (.int wd), some (.bool sgn), some (.ref la), some (.ref lb), some (.ref lc), some (.int tn), x9, x10, some (.ref st), x12, x13, x14, x15, x16, x17, x18, some (.ref cx), some (.ref a), x21, x22, x23, x24, x25, x26, x27] s (retQ Q) (fun x _ σ1 => E x σ1) := by
    intro a20 σ1 h20 s1 e20
    rw [hrest.h]
    have hD1 := hD.up s1
    have hrow1 := hrow.up s1
    have hc1 := s1 _ _ hc (by simp)
    have hb1 := s1 _ _ hb (by simp)
    have hco1 := s1 _ _ hco (by simp)
    have hS01 := hS0.up s1
    have hS11 := hS1.up s1
    have hd1 := s1 _ _ hd (by simp)
    have hw1 := s1 _ _ hw (by simp)
    clear hrest rest ha hb hco hS0 hS1 hd hw hc hrow hD s1 h20
    walk_at "st"
    refine comp_rule (by walk_at "om") ?_
    walk_at "mini"
    refine ⟨_, hco1, ?_⟩
    refine compK_unr (unrC_norm rfl co [] σ1 hco1 (by simp; lia) ?_)
    intro a21 h21
    walk_at "mini"
    have s2 : Same [] σ1 (σ1.put a21 (.list (numL (co.map norm2)))) := Same.new h21
    have e21 : (σ1.put a21 (.list (numL (co.map norm2)))) a21 = some (.list (numL (co.map norm2))) := put_eq
    have n1 := ne_new e20 h21
    generalize σ1.put a21 (.list (numL (co.map norm2))) = σ2 at *
    have hD2 := hD1.up s2
    have hrow2 := hrow1.up s2
    have hc2 := s2 _ _ hc1 (by simp)
    have hb2 := s2 _ _ hb1 (by simp)
    have hco2 := s2 _ _ hco1 (by simp)
    have hS02 := hS01.up s2
    have hS12 := hS11.up s2
    have hd2 := s2 _ _ hd1 (by simp)
    have hw2 := s2 _ _ hw1 (by simp)
    have e20' := s2 _ _ e20 (by simp)
    have nbl : lb ≠ a21 := ne_new hb1 h21
    have ncl : lc ≠ a21 := ne_new hco1 h21
    have nrl : row ≠ a21 := by obtain ⟨_, _, _, z⟩ := hrow1; exact ne_new z h21
    have nsl : a21 ≠ sl := by obtain ⟨_, ⟨_, _, _, z, _⟩, _⟩ := hS01; exact Ne.symm (ne_new z h21)
    have nll : a21 ≠ rl := Ne.symm (ne_new hD1.r h21)
    clear hD1 hrow1 hc1 hb1 hco1 hS01 hS11 hd1 hw1 e20 s2
    have ea0 : at0 (co.map norm2) 0 = norm2 (at0 co 0) := by
      match co, hlo with
      | [a, b, c, d], _ => rfl
    have key2 : ∀ (m : Nat) (rest : List MS), Rest rest M.law_8_24 → m = (if norm2 (at0 co 0) = 3 then 3 else (norm2 (at0 co 0) + tn) % 2) → setItemP (.ref a21) (.int 0) (.int (m : Int)) σ2 fun s => swps Tb (CSf c.toCx) r rest [x0, some (.ref row), some (.ref d), some (.int wd), some (.bool sgn), some (.ref la), some (.ref lb), some (.ref lc), some (.int tn), x9, x10, some (.ref st), x12, x13, x14, x15, x16, x17, x18, some (.ref cx), some (.ref a20), some (.ref a21), x22, x23, x24, x25, x26, x27] s (retQ Q) (fun x _ σ1 => E x σ1) := by
      intro m rest hrest hm
      rw [hrest.h]
      clear hrest rest
      refine seti_l 0 e21 rfl (by decide) (by rw [ints_len, List.length_map]; lia) ?_
      have e5 : (numL (co.map norm2)).set 0 (.int (m : Int)) = numL (xorC co (bitsC 4 ((tn % 2 : Nat) : Int))) := by
        rw [later_eq oko hlo, ← hm]
        unfold numL
        rw [List.map_set]
      rw [e5]
      have s3 : Same [a21] σ2 (σ2.put a21 (.list (numL (xorC co (bitsC 4 ((tn % 2 : Nat) : Int)))))) := Same.put
      have e21' : (σ2.put a21 (.list (numL (xorC co (bitsC 4 ((tn % 2 : Nat) : Int)))))) a21 = _ := put_eq
      generalize σ2.put a21 (.list (numL (xorC co (bitsC 4 ((tn % 2 : Nat) : Int))))) = σ3 at *
      have n20 : a20 ≠ a21 := n1
      exact law_keys (due := extC cs wd sgn) (later := xorC co (bitsC 4 ((tn % 2 : Nat) : Int))) (vs := newVals (newVals vals 0 cf (extC cs wd sgn)) 1 co (xorC co (bitsC 4 ((tn % 2 : Nat) : Int)))) hr (hD2.ls e21 s3 nll) hl (row_ok_same hrow2 s3 (by simpa using nrl)) hne (s3 _ _ hc2 (by simpa using ne_of hc2 e21 (by unfold fcO; simp))) hf
        (extC_ok ok1) extC_len hlf xorC_ok (by rw [xorC_len, hlo]) hlo hwd (s3 _ _ hb2 (by simpa using nbl)) (s3 _ _ hco2 (by simpa using ncl)) (s3 _ _ e20' (by simpa using n20)) e21' (hS02.ls s3 nsl e21) (hS12.ls s3 nsl e21)
        (s3 _ _ hd2 (by simpa using ne_of hd2 e21 (by simp))) (sigVal_other (sigVal_new hv0) (by decide)) (sigVal_new (sigVal_other hv1 (by decide))) (s3 _ _ hw2 (by simpa using ne_of hw2 e21 (by simp))) q
    walk_at "st"
    refine itemN 0 e21 rfl (by rw [List.length_map]; lia) (by decide) ?_
    walk_at "mini"
    rw [ea0]
    by_cases h3 : ((norm2 (at0 co 0) : Nat) : Int) = 3
    · rw [decide_eq_true h3, if_pos rfl]
      exact key2 3 _ (by assumption) (by rw [if_pos (by walk_at "om")])
    · rw [decide_eq_false h3, if_neg (by decide)]
      refine itemN 0 e21 rfl (by rw [List.length_map]; lia) (by decide) ?_
      walk_at "mini"
      rw [ea0]
      refine ⟨by decide, ?_⟩
      rw [show ((norm2 (at0 co 0) : Nat) : Int) + (tn : Int) = ((norm2 (at0 co 0) + tn : Nat) : Int) by lia, show (2 : Int) = ((2 : Nat) : Int) from rfl, fmodN _ 2 (by decide)]
      exact key2 _ _ (by assumption) (by rw [if_neg (by walk_at "om")])
  cases sgn with
  | true =>
    rw [if_pos rfl]
    refine .inl ⟨_, _, cs.length - 1, .int (at0 cs (cs.length - 1) : Int), rfl, ⟨by decide, by decide⟩, ha, ?_, ?_, ?_⟩
    · rw [ints_len]; unfold seqIx; rw [if_neg (by decide), if_pos (by walk_at "om")]; simp; lia
    · unfold numL at0; rw [List.getElem?_map, List.getElem?_eq_getElem (by walk_at "om")]; rfl
    · exact due_step (K := fun v σ1 => swps Tb (CSf c.toCx) r rest [x0, some (.ref row), some (.ref d), some (.int wd), some (.bool true), some (.ref la), some (.ref lb), some (.ref lc), some (.int tn), x9, x10, some (.ref st), x12, x13, x14, x15, x16, x17, x18, some (.ref cx), some v, x21, x22, x23, x24, x25, x26, x27] σ1 (retQ Q) (fun x _ σ1 => E x σ1)) ok1 hl1 hwd ha rfl key
  | false =>
    rw [if_neg (by decide)]
    exact due_step (K := fun v σ1 => swps Tb (CSf c.toCx) r rest [x0, some (.ref row), some (.ref d), some (.int wd), some (.bool false), some (.ref la), some (.ref lb), some (.ref lc), some (.int tn), x9, x10, some (.ref st), x12, x13, x14, x15, x16, x17, x18, some (.ref cx), some v, x21, x22, x23, x24, x25, x26, x27] σ1 (retQ Q) (fun x _ σ1 => E x σ1)) ok1 hl1 hwd ha rfl key
end
section
variable {c : CX} {r : Nat} {σ : Hp} {Q E : MV → Hp → Prop} {t : Tk Q E}
theorem law_run {d rl st dv sl row la lb lc : Addr} {wd tn : Nat} {sgn : Bool} {cs cf co : List Nat} {vals : List (Int × MV)} {x0 x9 x10 x12 x13 x14 x15 x16 x17 x18 x19 x20 x21 x22 x23 x24 x25 x26 x27 : Option MV} (hr : 80 ≤ r) (hD : Dsg σ d rl []) (hrow : RowOk σ row) (hne : row ≠ rl)
    (ok1 : Ok cs) (hl0 : 0 < cs.length) (hl1 : cs.length ≤ 20) (okf : Ok cf) (hlf : cf.length = wd) (oko : Ok co) (hlo : co.length = 4) (hwd : wd ≤ 20) (n1 : la ≠ rl) (n2 : lb ≠ rl) (n3 : lc ≠ rl) (n4 : rl ≠ sl)
    (ha : σ la = some (.list (numL cs))) (hb : σ lb = some (.list (numL cf))) (hco : σ lc = some (.list (numL co))) (htn : tn < 12) (hS0 : SigAt σ st dv sl 0 wd) (hS1 : SigAt σ st dv sl 1 4)
    (hd : σ dv = some (.dI vals)) (hv0 : SigVal vals 0 wd cf) (hv1 : SigVal vals 1 4 co) (hnv : vals.length ≤ 100)
    (q : ∀ σ', Q (.bool true) σ') :
    swps Tb (CSf c.toCx) r M.law_8_12 [x0, some (.ref row), some (.ref d), some (.int wd), some (.bool sgn), some (.ref la), some (.ref lb), some (.ref lc), some (.int tn), x9, x10, some (.ref st), x12, x13, x14, x15, x16, x17, x18, x19, x20, x21, x22, x23, x24, x25, x26, x27] σ (retQ Q) (fun x _ σ1 => E x σ1) := by
  walk_at "st"
  refine lv_s (by walk_at "om") ?_
  walk_at "mini"
  walk_at "st"
  walk_at "st"
  refine lv_s (by walk_at "om") ?_
  walk_at "mini"
  walk_at "st"
  walk_at "st"
  refine lv_s (by walk_at "om") ?_
  walk_at "mini"
  refine ⟨by decide, ?_⟩
  rw [show (2 : Int) = ((2 : Nat) : Int) from rfl, fmodN tn 2 (by decide)]
  walk_at "st"
  refine lv_s (by walk_at "om") ?_
  walk_at "mini"
  walk_at "st"
  intro pl hpl
  walk_at "mini"
  intro wl hwl
  walk_at "mini"
  have hne2 : pl ≠ wl := fun z => by rw [← z, put_eq] at hwl; cases hwl
  have s3 : Same [] σ ((σ.put pl (.list [.tup [.sym 69, .int wd, .bool sgn, .sym 32, .int 0]])).put wl (.list [.int 4, .int 4])) := (Same.new hpl).trans (Same.new hwl)
  have e1 : ((σ.put pl (.list [.tup [.sym 69, .int wd, .bool sgn, .sym 32, .int 0]])).put wl (.list [.int 4, .int 4])) wl = some (.list [.int 4, .int 4]) := put_eq
  have e2 : ((σ.put pl (.list [.tup [.sym 69, .int wd, .bool sgn, .sym 32, .int 0]])).put wl (.list [.int 4, .int 4])) pl = some (.list [.tup [.sym 69, .int wd, .bool sgn, .sym 32, .int 0]]) := (put_ne hne2).trans put_eq
  generalize (σ.put pl (.list [.tup [.sym 69, .int wd, .bool sgn, .sym 32, .int 0]])).put wl (.list [.int 4, .int 4]) = σ3 at *
  have nlp : pl ≠ rl := fun z => by rw [z, hD.r] at hpl; cases hpl
  have nls : wl ≠ rl := fun z => by rw [z, put_ne (Ne.symm nlp), hD.r] at hwl; cases hwl
  refine fn_s (ws := [4, 4]) (B := bodyM tn (tn % 2)) (ports := [.tup [.sym 69, .int wd, .bool sgn, .sym 32, .int (0 : Nat)]]) (by walk_at "om") (hD.up s3) (by simp) e2 e1 nlp nls (by simp) (by simp) fun rt σ4 hrt s4 hD4 hR4 => ?_
  have hrow4 := row_ok_same (hrow.up s3) s4 (by simpa using hne)
  have ha4 := s4 _ _ (s3 _ _ ha (by simp)) (by simpa using n1)
  have hb4 := s4 _ _ (s3 _ _ hb (by simp)) (by simpa using n2)
  have hco4 := s4 _ _ (s3 _ _ hco (by simp)) (by simpa using n3)
  have hS04 := (hS0.up s3).ls s4 n4 (hD.up s3).r
  have hS14 := (hS1.up s3).ls s4 n4 (hD.up s3).r
  have hd4 := s4 _ _ (s3 _ _ hd (by simp)) (by simpa using ne_of hd hD.r (by simp))
  clear ha hb hco hS0 hS1 hd hrow hD s3 s4 e1 e2
  walk_at "mini"
  walk_at "st"
  intro fr hfr
  walk_at "mini"
  refine ctx4_s (by walk_at "om") fun cx dw σ6 hcx hdw s6 h6 w6 => ?_
  have s56 := (Same.new (F := []) (o := .list []) hfr).trans s6
  have ncv : dw ≠ dv := fun z => by rw [z, (Same.new (F := []) (o := .list []) hfr) _ _ hd4 (by simp)] at hdw; cases hdw
  walk_at "mini"
  walk_at "st"
  refine meth_i h6 (by rfl) (by rfl) ?_
  walk_at "mini"
  refine made_s (by walk_at "om") (s56 _ _ ha4 (by simp)) ok1 hl1 ?_
  walk_at "mini"
  intro ar har
  walk_at "mini"
  have s7 : Same [] σ6 (σ6.put ar (.list [V cs])) := Same.new har
  have e7 : (σ6.put ar (.list [V cs])) ar = some (.list [V cs]) := put_eq
  generalize σ6.put ar (.list [V cs]) = σ7 at *
  have s47 := s56.trans s7
  have hc7 := s7 _ _ h6 (by simp)
  have hw7 := s7 _ _ w6 (by simp)
  have hd7 := s47 _ _ hd4 (by simp)
  have hD7 := hD4.up s47
  have hb7 := s47 _ _ hb4 (by simp)
  have hco7 := s47 _ _ hco4 (by simp)
  have ha7 := s47 _ _ ha4 (by simp)
  have hrow7 := hrow4.up s47
  have hS07 := hS04.up s47
  have hS17 := hS14.up s47
  have hcd : cx ≠ dv := ne_of hc7 hd7 (by unfold fcO; simp)
  have hcw : cx ≠ dw := ne_of hc7 hw7 (by unfold fcO; simp)
  have nl : ∀ {b xs}, σ7 b = some (.list xs) → b ∉ [cx, dv, dw] := fun {b xs} e z => by
    rcases (by simpa using z : b = cx ∨ b = dv ∨ b = dw) with z | z | z <;> subst z
    · rw [hc7] at e; cases e
    · rw [hd7] at e; cases e
    · rw [hw7] at e; cases e
  refine called_s (n := 0) (sl := sl) (p := tn % 2) (sgn := sgn) (cs := cs) (cf := cf) (co := co) (by walk_at "om") htn (Nat.mod_lt _ (by decide)) (hR4.up s47) hc7 (by decide) hS07 hS17 hd7 hv0 hv1 okf hlf oko hlo hnv hw7 ncv e7 ok1 hl0 hl1 hwd fun σ8 fu8 hf8 s8 hc8 hd8 hw8 => ?_
  walk_at "mini"
  rw [const4 (k := tn) (by walk_at "om")]
  refine ne_V (ok4 tn) ?_
  walk_at "mini"
  have ni : ∀ {b C fs}, σ7 b = some (.inst C fs) → C ≠ A.c_FunctionContext → b ∉ [cx, dv, dw] := fun {b C fs} e n z => by
    rcases (by simpa using z : b = cx ∨ b = dv ∨ b = dw) with z | z | z <;> subst z
    · rw [hc7] at e; unfold fcO at e; simp only [Option.some.injEq, MObj.inst.injEq] at e; exact n e.1.symm
    · rw [hd7] at e; cases e
    · rw [hw7] at e; cases e
  have hS : ∀ {k w}, SigAt σ7 st dv sl k w → SigAt σ8 st dv sl k w := fun {k w} h => by
    obtain ⟨⟨fs, a1, a2⟩, ⟨sigs, sg, gs, b1, b2, b3, b4⟩, hw, hk⟩ := h
    exact ⟨⟨fs, s8 _ _ a1 (ni a1 (by decide)), a2⟩, ⟨sigs, sg, gs, s8 _ _ b1 (nl b1), b2, s8 _ _ b3 (ni b3 (by decide)), b4⟩, hw, hk⟩
  have hD8 : Dsg σ8 d rl ([] ++ [.ref rt]) := by
    obtain ⟨⟨fs, a, b⟩, e⟩ := hD7
    exact ⟨⟨fs, s8 _ _ a (ni a (by decide)), b⟩, s8 _ _ e (nl e)⟩
  have hrow8 : RowOk σ8 row := row_ok_same hrow7 s8 (by obtain ⟨_, _, _, z⟩ := id hrow7; exact nl z)
  exact run_rest (law_cmp (vals := vals) (cs := cs) (cf := cf) (co := co) hr hD8 (by simp) hrow8 hne hc8 (by walk_at "om") ok1 hl0 hl1 okf hlf oko hlo hwd (s8 _ _ ha7 (nl ha7)) (s8 _ _ hb7 (nl hb7)) (s8 _ _ hco7 (nl hco7)) htn (hS hS07) (hS hS17) hd8 hv0 hv1 hw8 q) (by assumption)
end
section
variable {c : CX} {r : Nat} {σ : Hp} {Q E : MV → Hp → Prop} {t : Tk Q E}
theorem law_set2 {d rl st dv sl row la lb lc : Addr} {wd tn : Nat} {sgn : Bool} {cs cf co : List Nat} {vals : List (Int × MV)} {x0 x9 x10 x12 x13 x14 x15 x16 x17 x18 x19 x20 x21 x22 x23 x24 x25 x26 x27 : Option MV} (hr : 80 ≤ r) (hD : Dsg σ d rl []) (hrow : RowOk σ row) (hne : row ≠ rl)
    (ok1 : Ok cs) (hl0 : 0 < cs.length) (hl1 : cs.length ≤ 20) (okf : Ok cf) (hlf : cf.length = wd) (oko : Ok co) (hlo : co.length = 4) (hwd : wd ≤ 20) (n1 : la ≠ rl) (n2 : lb ≠ rl) (n3 : lc ≠ rl) (n4 : rl ≠ sl)
    (ha : σ la = some (.list (numL cs))) (hb : σ lb = some (.list (numL cf))) (hco : σ lc = some (.list (numL co))) (htn : tn < 12) (hS0 : SigAt σ st dv sl 0 wd) (hS1 : SigAt σ st dv sl 1 4)
    (hd : σ dv = some (.dI vals)) (hv0 : SigVal vals 0 wd cf) (hv1 : SigVal vals 1 4 (gen 4 fun _ => 3)) (hnv : vals.length ≤ 90)
    (q : ∀ σ', Q (.bool true) σ') :
    swps Tb (CSf c.toCx) r M.law_8_11 [x0, some (.ref row), some (.ref d), some (.int wd), some (.bool sgn), some (.ref la), some (.ref lb), some (.ref lc), some (.int tn), x9, x10, some (.ref st), x12, x13, x14, x15, x16, x17, x18, x19, x20, x21, x22, x23, x24, x25, x26, x27] σ (retQ Q) (fun x _ σ1 => E x σ1) := by
  walk_at "st"
  obtain ⟨⟨gs, a1, a2, a3, a4, a5⟩, _⟩ := id hS1
  refine meth_i a1 (by rfl) a5 ?_
  walk_at "mini"
  refine made_s (by walk_at "om") hco oko (by walk_at "om") ?_
  walk_at "mini"
  have e : putC (gen 4 fun _ => 3) 0 co = co := putC_all (by rw [hlo, gen_len])
  refine set_bits_s (gen 4 fun _ => 3) (by walk_at "om") hS1 hd hv1 (gen_ok fun _ _ => by decide) oko (by rw [gen_len]; decide) (by walk_at "om") (by decide) (by walk_at "om") (fun h => ?_) (fun h => ?_)
  · rw [e] at h
    walk_at "mini"
    exact run_rest (law_run hr hD hrow hne ok1 hl0 hl1 okf hlf oko hlo hwd n1 n2 n3 n4 ha hb hco htn hS0 hS1 hd hv0 (h ▸ hv1) (by walk_at "om") q) (by assumption)
  · rw [e] at h ⊢
    walk_at "mini"
    have s : Same [dv] σ (σ.put dv (.dI (putI ((1 : Nat) : Int) (V co) vals))) := Same.put
    have nl : ∀ {b xs}, σ b = some (.list xs) → b ∉ [dv] := fun {b xs} k => by simpa using ne_of k hd (by simp)
    refine run_rest (law_run (vals := newVals vals 1 (gen 4 fun _ => 3) co) hr ?_ (row_ok_same hrow s (by obtain ⟨_, _, _, z⟩ := hrow; exact nl z)) hne ok1 hl0 hl1 okf hlf oko hlo hwd n1 n2 n3 n4 (s _ _ ha (nl ha)) (s _ _ hb (nl hb)) (s _ _ hco (nl hco)) htn (hS0.dv s hd) (hS1.dv s hd) ?_ (sigVal_other hv0 (by decide)) (sigVal_new hv1) (by have := newVals_len (vals := vals) (k := 1) (v := gen 4 fun _ => 3) (new := co); lia) q) (by assumption)
    · obtain ⟨⟨fs, a, b⟩, k⟩ := hD
      exact ⟨⟨fs, s _ _ a (by simpa using ne_of a hd (by simp)), b⟩, s _ _ k (nl k)⟩
    · unfold newVals; rw [if_neg h]; exact put_eq
theorem law_set1 {d rl st dv sl row la lb lc : Addr} {wd tn : Nat} {sgn : Bool} {cs cf co : List Nat} {x0 x9 x10 x12 x13 x14 x15 x16 x17 x18 x19 x20 x21 x22 x23 x24 x25 x26 x27 : Option MV} (hr : 80 ≤ r) (hD : Dsg σ d rl []) (hrow : RowOk σ row) (hne : row ≠ rl)
    (ok1 : Ok cs) (hl0 : 0 < cs.length) (hl1 : cs.length ≤ 20) (okf : Ok cf) (hlf : cf.length = wd) (oko : Ok co) (hlo : co.length = 4) (hwd : wd ≤ 20) (n1 : la ≠ rl) (n2 : lb ≠ rl) (n3 : lc ≠ rl) (n4 : rl ≠ sl)
    (ha : σ la = some (.list (numL cs))) (hb : σ lb = some (.list (numL cf))) (hco : σ lc = some (.list (numL co))) (htn : tn < 12) (hS0 : SigAt σ st dv sl 0 wd) (hS1 : SigAt σ st dv sl 1 4)
    (hd : σ dv = some (.dI [])) (q : ∀ σ', Q (.bool true) σ') :
    swps Tb (CSf c.toCx) r M.law_8_10 [x0, some (.ref row), some (.ref d), some (.int wd), some (.bool sgn), some (.ref la), some (.ref lb), some (.ref lc), some (.int tn), x9, x10, some (.ref st), x12, x13, x14, x15, x16, x17, x18, x19, x20, x21, x22, x23, x24, x25, x26, x27] σ (retQ Q) (fun x _ σ1 => E x σ1) := by
  walk_at "st"
  obtain ⟨⟨gs, a1, a2, a3, a4, a5⟩, _⟩ := id hS1
  refine meth_i a1 (by rfl) a5 ?_
  walk_at "mini"
  refine made_s (by walk_at "om") hb okf (by walk_at "om") ?_
  walk_at "mini"
  have e : putC (gen wd fun _ => 3) 0 cf = cf := putC_all (by rw [hlf, gen_len])
  have hv0 : SigVal [] 0 wd (gen wd fun _ => 3) := .inr ⟨rfl, rfl⟩
  have hv1 : SigVal [] 1 4 (gen 4 fun _ => 3) := .inr ⟨rfl, rfl⟩
  refine set_bits_s (k := 0) (gen wd fun _ => 3) (by walk_at "om") hS0 hd hv0 (gen_ok fun _ _ => by decide) okf (by rw [gen_len]; lia) (by walk_at "om") (by decide) (by decide) (fun h => ?_) (fun h => ?_)
  · rw [e] at h
    walk_at "mini"
    exact run_rest (law_set2 hr hD hrow hne ok1 hl0 hl1 okf hlf oko hlo hwd n1 n2 n3 n4 ha hb hco htn hS0 hS1 hd (h ▸ hv0) hv1 (by decide) q) (by assumption)
  · rw [e] at h ⊢
    walk_at "mini"
    have s : Same [dv] σ (σ.put dv (.dI (putI ((0 : Nat) : Int) (V cf) []))) := Same.put
    have nl : ∀ {b xs}, σ b = some (.list xs) → b ∉ [dv] := fun {b xs} k => by simpa using ne_of k hd (by simp)
    refine run_rest (law_set2 (vals := newVals [] 0 (gen wd fun _ => 3) cf) hr ?_ (row_ok_same hrow s (by obtain ⟨_, _, _, z⟩ := hrow; exact nl z)) hne ok1 hl0 hl1 okf hlf oko hlo hwd n1 n2 n3 n4 (s _ _ ha (nl ha)) (s _ _ hb (nl hb)) (s _ _ hco (nl hco)) htn (hS0.dv s hd) (hS1.dv s hd) ?_ (sigVal_new hv0) (sigVal_other hv1 (by decide)) (by have := newVals_len (vals := []) (k := 0) (v := gen wd fun _ => 3) (new := cf); simp at this; lia) q) (by assumption)
    · obtain ⟨⟨fs, a, b⟩, k⟩ := hD
      exact ⟨⟨fs, s _ _ a (by simpa using ne_of a hd (by simp)), b⟩, s _ _ k (nl k)⟩
    · unfold newVals; rw [if_neg h]; exact put_eq
structure Early (σ : Hp) (row d rl sl bp : Addr) (fs : List (Nat × MV)) : Prop where
  hrow : RowOk σ row
  hd : σ d = some (.inst A.c_Design fs)
  hrl : σ rl = some (.list [])
  hsl : σ sl = some (.list [])
  hbp : σ bp = some (.dS [])
  n1 : row ≠ rl
  n2 : row ≠ sl
theorem Early.next {σ σ' : Hp} {row d rl sl bp : Addr} {fs : List (Nat × MV)} (h : Early σ row d rl sl bp fs) (s : Same [row] σ σ') (hr : RowOk σ' row) : Early σ' row d rl sl bp fs := by
  obtain ⟨_, _, _, z⟩ := h.hrow
  exact ⟨hr, s _ _ h.hd (by simpa using ne_of h.hd z (by simp)), s _ _ h.hrl (by simpa using Ne.symm h.n1), s _ _ h.hsl (by simpa using Ne.symm h.n2), s _ _ h.hbp (by simpa using ne_of h.hbp z (by simp)), h.n1, h.n2⟩
theorem law_s {scr : Addr} {ns : List Int} (hr : 90 ≤ r) (h : σ scr = some (.frz ns)) (hn : ns.length ≤ 1000) (q : ∀ σ', Q (.bool true) σ') : CS1 c.toCx r (.ref A.f_law) [.ref scr] σ Q E t := by
  refine cal_law (by walk_at "om") ?_
  walk_at "st"
  refine row_s (by walk_at "om") h hn fun row σ1 hrow0 s1 hrow1 => ?_
  walk_at "mini"
  walk_at "st"
  refine design_s (by walk_at "om") fun d rl sl bp fs σ2 hd0 s2 d1 d2 d3 d4 d5 d6 d7 hrl hsl hbp m1 m2 m3 hrl0 hsl0 hbp0 => ?_
  walk_at "mini"
  have E2 : Early σ2 row d rl sl bp fs := by
    obtain ⟨_, _, _, z⟩ := id hrow1
    exact ⟨hrow1.up s2, d1, hrl, hsl, hbp, ne_new z hrl0, ne_new z hsl0⟩
  clear hrow1 d1 hrl hsl hbp s2 s1 hrl0 hsl0 hbp0 hd0 h
  walk_at "st"
  refine next_s (by walk_at "om") E2.hrow fun a σ3 _ s3 hr3 => ?_
  have E3 := E2.next s3 hr3
  walk_at "mini"
  rw [show (6 : Int) = ((6 : Nat) : Int) from rfl, fmodN a 6 (by decide)]
  refine ⟨by decide, ?_⟩
  have hwd : a % 6 < 6 := Nat.mod_lt _ (by decide)
  rw [show (1 : Int) + ((a % 6 : Nat) : Int) = ((1 + a % 6 : Nat) : Int) by lia]
  generalize hwd' : 1 + a % 6 = wd at *
  walk_at "st"
  refine next_s (by walk_at "om") E3.hrow fun b σ4 _ s4 hr4 => ?_
  have E4 := E3.next s4 hr4
  walk_at "mini"
  refine ⟨by decide, ?_⟩
  generalize decide ((b : Int).fmod 2 = 1) = sgn at *
  walk_at "st"
  refine next_s (by walk_at "om") E4.hrow fun a5 σ5 _ s5 hr5 => ?_
  have E5 := E4.next s5 hr5
  walk_at "mini"
  rw [show (6 : Int) = ((6 : Nat) : Int) from rfl, fmodN a5 6 (by decide)]
  refine ⟨by decide, ?_⟩
  have hw5 : a5 % 6 < 6 := Nat.mod_lt _ (by decide)
  rw [show (1 : Int) + ((a5 % 6 : Nat) : Int) = ((1 + a5 % 6 : Nat) : Int) by lia]
  refine bits_s (1 + a5 % 6) (by walk_at "om") rfl (by walk_at "om") E5.hrow fun la cs σ6 hla0 hlc ok1 s6 hr6 hla => ?_
  have E6 := E5.next s6 hr6
  walk_at "mini"
  walk_at "st"
  refine bits_s wd (by walk_at "om") rfl (by walk_at "om") E6.hrow fun lb cf σ7 hlb0 hlf okf s7 hr7 hlb => ?_
  have E7 := E6.next s7 hr7
  walk_at "mini"
  walk_at "st"
  refine bits_s 4 (by walk_at "om") rfl (by walk_at "om") E7.hrow fun lc co σ8 hlc0 hlo oko s8 hr8 hlc' => ?_
  have E8 := E7.next s8 hr8
  walk_at "mini"
  walk_at "st"
  refine next_s (by walk_at "om") E8.hrow fun a9 σ9 _ s9 hr9 => ?_
  have E9 := E8.next s9 hr9
  walk_at "mini"
  rw [show (12 : Int) = ((12 : Nat) : Int) from rfl, fmodN a9 12 (by decide)]
  refine ⟨by decide, ?_⟩
  have htn : a9 % 12 < 12 := Nat.mod_lt _ (by decide)
  generalize a9 % 12 = tn at *
  have nw : ∀ {σ σ' : Hp} {l : Addr}, RowOk σ row → σ l = none → row ≠ l := fun {σ σ' l} h e => by
    obtain ⟨_, _, _, z⟩ := h; exact ne_new z e
  have p1 : row ≠ la := by obtain ⟨_, _, _, z⟩ := E5.hrow; exact ne_new z hla0
  have p2 : row ≠ lb := by obtain ⟨_, _, _, z⟩ := E6.hrow; exact ne_new z hlb0
  have p3 : row ≠ lc := by obtain ⟨_, _, _, z⟩ := E7.hrow; exact ne_new z hlc0
  have n1 : rl ≠ la := ne_new E5.hrl hla0
  have n2 : rl ≠ lb := ne_new E6.hrl hlb0
  have n3 : rl ≠ lc := ne_new E7.hrl hlc0
  have k1 : sl ≠ la := ne_new E5.hsl hla0
  have k2 : sl ≠ lb := ne_new E6.hsl hlb0
  have k3 : sl ≠ lc := ne_new E7.hsl hlc0
  have hla9 := s9 _ _ (s8 _ _ (s7 _ _ hla (by simpa using Ne.symm p1)) (by simpa using Ne.symm p1)) (by simpa using Ne.symm p1)
  have hlb9 := s9 _ _ (s8 _ _ hlb (by simpa using Ne.symm p2)) (by simpa using Ne.symm p2)
  have hlc9 := s9 _ _ hlc' (by simpa using Ne.symm p3)
  clear E2 E3 E4 E5 E6 E7 E8 s3 s4 s5 s6 s7 s8 s9 hla hlb hlc' hr3 hr4 hr5 hr6 hr7 hr8 hr9 hla0 hlb0 hlc0 nw
  walk_at "st"
  refine for_rule (by walk_at "om") ?_
  walk_at "mini"
  intro ll hll
  have E10 : Early (σ9.put ll (.list [.tup [.sym 123, .int wd], .tup [.sym 124, .int 4]])) row d rl sl bp fs := by
    have s : Same [] σ9 (σ9.put ll (.list [.tup [.sym 123, .int wd], .tup [.sym 124, .int 4]])) := Same.new hll
    exact ⟨E9.hrow.up s, s _ _ E9.hd (by simp), s _ _ E9.hrl (by simp), s _ _ E9.hsl (by simp), s _ _ E9.hbp (by simp), E9.n1, E9.n2⟩
  have e10 : (σ9.put ll (.list [.tup [.sym 123, .int wd], .tup [.sym 124, .int 4]])) ll = some (.list [.tup [.sym 123, .int wd], .tup [.sym 124, .int 4]]) := put_eq
  have s10 : Same [] σ9 (σ9.put ll (.list [.tup [.sym 123, .int wd], .tup [.sym 124, .int 4]])) := Same.new hll
  have q1 : ll ≠ sl := Ne.symm (ne_new E9.hsl hll)
  have q2 : ll ≠ bp := ne_of e10 E10.hbp (by simp)
  have hla10 := s10 _ _ hla9 (by simp)
  have hlb10 := s10 _ _ hlb9 (by simp)
  have hlc10 := s10 _ _ hlc9 (by simp)
  refine ⟨_, e10, ?_⟩
  generalize σ9.put ll (.list [.tup [.sym 123, .int wd], .tup [.sym 124, .int 4]]) = σ10 at *
  clear E9 hla9 hlb9 hlc9 s10 hll
  refine forK_unr ⟨e10, by lia, ?_⟩
  show manyP _ _ _ _
  walk_at "mini"
  walk_at "st"
  refine meth_i E10.hd (by rfl) d7 ?_
  walk_at "mini"
  refine add_signal_s (p := 123) (by walk_at "om") E10.hd d3 d4 E10.hsl (by decide) E10.hbp (by decide) fun s1 σ11 hs1 t11 g11 u11 v11 => ?_
  walk_at "mini"
  have m4 : d ≠ sl := ne_of E10.hd E10.hsl (by simp)
  have m5 : d ≠ bp := ne_of E10.hd E10.hbp (by simp)
  have m6 : rl ≠ bp := ne_of E10.hrl E10.hbp (by simp)
  have d11 := t11 _ _ E10.hd (by simp [m4, m5])
  have e11 := t11 _ _ e10 (by simp [q1, q2])
  refine ⟨e11, by lia, ?_⟩
  show manyP _ _ _ _
  walk_at "mini"
  walk_at "st"
  refine meth_i d11 (by rfl) d7 ?_
  walk_at "mini"
  refine add_signal_s (p := 124) (by walk_at "om") d11 d3 d4 u11 (by simp) v11 (by simp [putN]) fun s2 σ12 hs2 t12 g12 u12 v12 => ?_
  walk_at "mini"
  have d12 := t12 _ _ d11 (by simp [m4, m5])
  have e12 := t12 _ _ e11 (by simp [q1, q2])
  refine ⟨e12, ?_⟩
  walk_at "mini"
  have g1 := t12 _ _ g11 (by simp [ne_of g11 u11 (by simp), ne_of g11 v11 (by simp)])
  have tt := t11.trans t12
  have lb10 : ∀ {b xs}, σ10 b = some (.list xs) → b ≠ bp := fun {b xs} e => ne_of e E10.hbp (by simp)
  have hla12 := tt _ _ hla10 (by simp [Ne.symm k1, lb10 hla10])
  have hlb12 := tt _ _ hlb10 (by simp [Ne.symm k2, lb10 hlb10])
  have hlc12 := tt _ _ hlc10 (by simp [Ne.symm k3, lb10 hlc10])
  have hrl12 := tt _ _ E10.hrl (by simp [Ne.symm m1, m6])
  have hrow12 := row_ok_same E10.hrow tt (by obtain ⟨_, _, _, z⟩ := E10.hrow; simp [E10.n2, lb10 z])
  have hne := E10.n1
  clear E10 e10 hla10 hlb10 hlc10 t11 t12 tt g11 u11 v11 d11 e11 v12 e12 lb10
  walk_at "st"
  refine attr_i d12 (by rfl) d3 ?_
  walk_at "mini"
  refine store_s (by walk_at "om") fun st dv dm σ13 hst hdv t13 f1 f2 => ?_
  walk_at "mini"
  have S : ∀ {k w s gs}, ([] ++ [.ref s1] ++ [.ref s2] : List MV)[k]? = some (.ref s) → σ12 s = some (.inst A.c_Signal gs) → gs.lookup 4 = some (.sym 126) → gs.lookup 49 = some (.int (w : Nat)) → gs.lookup 55 = none → w ≤ 20 → k ≤ 100 → SigAt σ13 st dv sl k w := fun {k w s gs} h1 h2 h3 h4 h5 h6 h7 =>
    ⟨⟨_, f1, rfl, rfl, rfl, rfl⟩, ⟨_, s, gs, t13 _ _ u12 (by simp), h1, t13 _ _ h2 (by simp), h3, h4, h5⟩, h6, h7⟩
  refine run_rest (law_set1 (cs := cs) (cf := cf) (co := co) (sl := sl) (dv := dv) (rl := rl) (by walk_at "om") ⟨⟨fs, t13 _ _ d12 (by simp), d2, d5, d6⟩, t13 _ _ hrl12 (by simp)⟩ (hrow12.up t13) hne ok1 (by walk_at "om") (by walk_at "om") okf hlf oko hlo (by walk_at "om") (Ne.symm n1) (Ne.symm n2) (Ne.symm n3) (Ne.symm m1)
    (t13 _ _ hla12 (by simp)) (t13 _ _ hlb12 (by simp)) (t13 _ _ hlc12 (by simp)) htn (S (k := 0) (s := s1) rfl g1 (by rfl) (by rfl) (by rfl) (by walk_at "om") (by decide)) (S (k := 1) (s := s2) rfl g12 (by rfl) (by rfl) (by rfl) (by decide) (by decide)) f2 q) (by assumption)
end
end Mine
end
section
open PySem PySem.W PyProof.Rows
set_option maxRecDepth 100000
set_option maxHeartbeats 0
namespace Mine
theorem fk_sym : symsOk Tb.sym = true := by kernel_rfl
theorem fk_cx1 (P : Params) : Tb.subs.all (fun x => exmOne (KK P) (.ref x.1.1) (.ref x.1.2) == some x.2) = true := by kernel_rfl
theorem fk_cx2 (P : Params) : Tb.plain.all (fun x => x.2.all fun n => plB Tb (KK P) x.1 n) = true := by kernel_rfl
theorem fk_cx3 (P : Params) : Tb.meths.all (fun x => meB Tb (KK P) x.1.1 x.1.2 x.2) = true := by kernel_rfl
theorem fk_cx4 (P : Params) : Tb.clsAttrs.all (fun x => caB Tb (KK P) x.1.1 x.1.2 x.2) = true := by kernel_rfl
theorem fk_cx5 (P : Params) : Tb.eplain.all (fun x => x.2.all fun n => exB Tb (KK P) x.1 n) = true := by kernel_rfl
theorem fk_in (P : Params) : insts.all (fun x => instB (KK P) x.1 x.2) = true := by kernel_rfl
theorem fk_ex (P : Params) : excsT.all (fun x => excChk (KK P) x.1 x.2) = true := by kernel_rfl
theorem all_cons' {α : Type} {p : α → Bool} {a : α} {l : List α} (h : p a = true) (k : l.all p = true) : (a :: l).all p = true := by rw [List.all_cons, h, k]; rfl
theorem fk_f_GateloomError___init__ (P : Params) : F.GateloomError___init__.ok (KK P) Tb.sym = true := by kernel_rfl
theorem fk_f_mask (P : Params) : F.mask.ok (KK P) Tb.sym = true := by kernel_rfl
theorem fk_f_vec (P : Params) : F.vec.ok (KK P) Tb.sym = true := by kernel_rfl
theorem fk_f_all_x (P : Params) : F.all_x.ok (KK P) Tb.sym = true := by kernel_rfl
theorem fk_f_from_int (P : Params) : F.from_int.ok (KK P) Tb.sym = true := by kernel_rfl
theorem fk_f_is_known (P : Params) : F.is_known.ok (KK P) Tb.sym = true := by kernel_rfl
theorem fk_f_code (P : Params) : F.code.ok (KK P) Tb.sym = true := by kernel_rfl
theorem fk_f_slice_vec (P : Params) : F.slice_vec.ok (KK P) Tb.sym = true := by kernel_rfl
theorem fk_f_put_slice (P : Params) : F.put_slice.ok (KK P) Tb.sym = true := by kernel_rfl
theorem fk_f_extend (P : Params) : F.extend.ok (KK P) Tb.sym = true := by kernel_rfl
theorem fk_f_truth (P : Params) : F.truth.ok (KK P) Tb.sym = true := by kernel_rfl
theorem fk_f_add (P : Params) : F.add.ok (KK P) Tb.sym = true := by kernel_rfl
theorem fk_f_one_bit (P : Params) : F.one_bit.ok (KK P) Tb.sym = true := by kernel_rfl
theorem fk_f_bit_xor (P : Params) : F.bit_xor.ok (KK P) Tb.sym = true := by kernel_rfl
theorem fk_f_equal (P : Params) : F.equal.ok (KK P) Tb.sym = true := by kernel_rfl
theorem fk_f_arithmetic (P : Params) : F.arithmetic.ok (KK P) Tb.sym = true := by kernel_rfl
theorem fk_f_comparison (P : Params) : F.comparison.ok (KK P) Tb.sym = true := by kernel_rfl
theorem fk_f_bitwise (P : Params) : F.bitwise.ok (KK P) Tb.sym = true := by kernel_rfl
theorem fk_f_binary (P : Params) : F.binary.ok (KK P) Tb.sym = true := by kernel_rfl
theorem fk_f_evaluate (P : Params) : F.evaluate.ok (KK P) Tb.sym = true := by kernel_rfl
theorem fk_f_locate (P : Params) : F.locate.ok (KK P) Tb.sym = true := by kernel_rfl
theorem fk_f_holder_width (P : Params) : F.holder_width.ok (KK P) Tb.sym = true := by kernel_rfl
theorem fk_f_resolve_target (P : Params) : F.resolve_target.ok (KK P) Tb.sym = true := by kernel_rfl
theorem fk_f_store_rows (P : Params) : F.store_rows.ok (KK P) Tb.sym = true := by kernel_rfl
theorem fk_f_Store___init__ (P : Params) : F.Store___init__.ok (KK P) Tb.sym = true := by kernel_rfl
theorem fk_f_Store_get (P : Params) : F.Store_get.ok (KK P) Tb.sym = true := by kernel_rfl
theorem fk_f_Store_set_bits (P : Params) : F.Store_set_bits.ok (KK P) Tb.sym = true := by kernel_rfl
theorem fk_f_Context___init__ (P : Params) : F.Context___init__.ok (KK P) Tb.sym = true := by kernel_rfl
theorem fk_f_FunctionContext___init__ (P : Params) : F.FunctionContext___init__.ok (KK P) Tb.sym = true := by kernel_rfl
theorem fk_f_FunctionContext_call (P : Params) : F.FunctionContext_call.ok (KK P) Tb.sym = true := by kernel_rfl
theorem fk_f_FunctionContext_new_frame (P : Params) : F.FunctionContext_new_frame.ok (KK P) Tb.sym = true := by kernel_rfl
theorem fk_f_FunctionContext_burn (P : Params) : F.FunctionContext_burn.ok (KK P) Tb.sym = true := by kernel_rfl
theorem fk_f_FunctionContext_is_true (P : Params) : F.FunctionContext_is_true.ok (KK P) Tb.sym = true := by kernel_rfl
theorem fk_f_run_block (P : Params) : F.run_block.ok (KK P) Tb.sym = true := by kernel_rfl
theorem fk_f_run_set (P : Params) : F.run_set.ok (KK P) Tb.sym = true := by kernel_rfl
theorem fk_f_run_while (P : Params) : F.run_while.ok (KK P) Tb.sym = true := by kernel_rfl
theorem fk_f_run_statement (P : Params) : F.run_statement.ok (KK P) Tb.sym = true := by kernel_rfl
theorem fk_f_net_kinds (P : Params) : F.net_kinds.ok (KK P) Tb.sym = true := by kernel_rfl
theorem fk_f_Signal___init__ (P : Params) : F.Signal___init__.ok (KK P) Tb.sym = true := by kernel_rfl
theorem fk_f_Signal_is_net (P : Params) : F.Signal_is_net.ok (KK P) Tb.sym = true := by kernel_rfl
theorem fk_f_Routine___init__ (P : Params) : F.Routine___init__.ok (KK P) Tb.sym = true := by kernel_rfl
theorem fk_f_Design___init__ (P : Params) : F.Design___init__.ok (KK P) Tb.sym = true := by kernel_rfl
theorem fk_f_Design_add_signal (P : Params) : F.Design_add_signal.ok (KK P) Tb.sym = true := by kernel_rfl
theorem fk_f_Design_add_routine (P : Params) : F.Design_add_routine.ok (KK P) Tb.sym = true := by kernel_rfl
theorem fk_f_Design_routine (P : Params) : F.Design_routine.ok (KK P) Tb.sym = true := by kernel_rfl
theorem fk_f__law_row (P : Params) : F.xlaw_row.ok (KK P) Tb.sym = true := by kernel_rfl
theorem fk_f__law_next (P : Params) : F.xlaw_next.ok (KK P) Tb.sym = true := by kernel_rfl
theorem fk_f__law_bits (P : Params) : F.xlaw_bits.ok (KK P) Tb.sym = true := by kernel_rfl
theorem fk_f__law_made (P : Params) : F.xlaw_made.ok (KK P) Tb.sym = true := by kernel_rfl
theorem fk_f__law_lv (P : Params) : F.xlaw_lv.ok (KK P) Tb.sym = true := by kernel_rfl
theorem fk_f__law_function (P : Params) : F.xlaw_function.ok (KK P) Tb.sym = true := by kernel_rfl
theorem fk_f__law_refused (P : Params) : F.xlaw_refused.ok (KK P) Tb.sym = true := by kernel_rfl
theorem fk_f_law (P : Params) : F.law.ok (KK P) Tb.sym = true := by kernel_rfl
theorem fk_cx (P : Params) : cxB Tb (KK P) = true := by
  unfold cxB
  rw [fk_cx1, fk_cx2, fk_cx3, fk_cx4, fk_cx5]; rfl
theorem fk_fns (P : Params) : fns.all (fun x => x.ok (KK P) Tb.sym) = true :=
  all_cons' (fk_f_GateloomError___init__ P) <| all_cons' (fk_f_mask P) <| all_cons' (fk_f_vec P) <| all_cons' (fk_f_all_x P) <| all_cons' (fk_f_from_int P) <| all_cons' (fk_f_is_known P) <| all_cons' (fk_f_code P) <| all_cons' (fk_f_slice_vec P) <| all_cons' (fk_f_put_slice P) <| all_cons' (fk_f_extend P) <| all_cons' (fk_f_truth P) <| all_cons' (fk_f_add P) <| all_cons' (fk_f_one_bit P) <| all_cons' (fk_f_bit_xor P) <| all_cons' (fk_f_equal P) <| all_cons' (fk_f_arithmetic P) <| all_cons' (fk_f_comparison P) <| all_cons' (fk_f_bitwise P) <| all_cons' (fk_f_binary P) <| all_cons' (fk_f_evaluate P) <| all_cons' (fk_f_locate P) <| all_cons' (fk_f_holder_width P) <| all_cons' (fk_f_resolve_target P) <| all_cons' (fk_f_store_rows P) <| all_cons' (fk_f_Store___init__ P) <| all_cons' (fk_f_Store_get P) <| all_cons' (fk_f_Store_set_bits P) <| all_cons' (fk_f_Context___init__ P) <| all_cons' (fk_f_FunctionContext___init__ P) <| all_cons' (fk_f_FunctionContext_call P) <| all_cons' (fk_f_FunctionContext_new_frame P) <| all_cons' (fk_f_FunctionContext_burn P) <| all_cons' (fk_f_FunctionContext_is_true P) <| all_cons' (fk_f_run_block P) <| all_cons' (fk_f_run_set P) <| all_cons' (fk_f_run_while P) <| all_cons' (fk_f_run_statement P) <| all_cons' (fk_f_net_kinds P) <| all_cons' (fk_f_Signal___init__ P) <| all_cons' (fk_f_Signal_is_net P) <| all_cons' (fk_f_Routine___init__ P) <| all_cons' (fk_f_Design___init__ P) <| all_cons' (fk_f_Design_add_signal P) <| all_cons' (fk_f_Design_add_routine P) <| all_cons' (fk_f_Design_routine P) <| all_cons' (fk_f__law_row P) <| all_cons' (fk_f__law_next P) <| all_cons' (fk_f__law_bits P) <| all_cons' (fk_f__law_made P) <| all_cons' (fk_f__law_lv P) <| all_cons' (fk_f__law_function P) <| all_cons' (fk_f__law_refused P) <| all_cons' (fk_f_law P) <| rfl
theorem facts (P : Params) : factsB (KK P) = true := by
  unfold factsB
  rw [fk_cx, fk_fns, fk_in, fk_ex]; rfl
end Mine
end
section
open PySem PySem.W PyProof.Rows
set_option maxRecDepth 100000
set_option maxHeartbeats 400000
namespace Mine
theorem j7 (P : Params) : nsIn (KK P) mainGlobals lawRec.name = some (some (.ref A.f_law)) := by kernel_rfl
theorem head (walk : WalkO qv loose (XL qv []) hk.says RW.row.toRowW lawRec [] (fun f vs => PySem.call f vs)) : RW.Holds :=
  holds_law hd_said fun said => holds_open (q := qv) (loose := loose) (Xt := Xt) (XP := XL qv []) (Yf := hk.obs) (Ya := hk.val) (YP := hk.says) (N := 6000) hd_left hk.of hk.keeps
    (fun _ e => xl_of _ (Bool.and_eq_true_iff.mp e).1) XL.keeps j1 j2 j3 (fun _ e => recFacts_of (Bool.and_eq_true_iff.mp e).2) rfl said j4 j5 j6 walk
theorem walk_of (law : ∀ (c : CX) (ns : List Int) (a : Addr) (σ : Hp), ns.length ≤ 63 → σ a = some (.frz ns) → (∀ b, b ≠ a → σ b = none) → CallSpec c.toCx 190 (.ref A.f_law) [.ref a] σ (fun v _ => v = .bool true) (fun _ _ => False)) :
    WalkO qv loose (XL qv []) hk.says RW.row.toRowW lawRec [] (fun f vs => PySem.call f vs) := by
  intro w s₀ s₁ mg mb G Y fa o pm cd doc dV kV ho hd hcd hD hmg hg args vals as hpre hlay hrd hwl hlo
  have X : (KK w.params).In s₁.heap := kIn_of Y
  refine Ground.open G ?_
  intro T B D TE TW
  wrow_args hpre hlay hrd hwl hlo
  have TR := topRead_of T
  have ef : mg lawRec.name = some (.ref A.f_law) := mg_of X TR.g (j7 _)
  rw [hmg] at ef
  obtain rfl : fa = A.f_law := by simpa using ef
  rename IntsAre _ _ => hI
  rename Heap.IsList _ _ _ => hL
  rename ¬ _ < _ => hlen
  rename Addr => l
  rename List Int => ns
  let pre : CxPre Tb := { prog := RW.row.prog, w := w, K := KK w.params, base := s₁.heap, p := qv, loose := looseW qv loose, mg := mg, mb := mb, os := s₁.os, g := s₁.gens, d := s₁.drawn, hK := X, hT := TR }
  have hcx : cxB Tb (KK w.params) = true := fk_cx _
  let c : CX := { pre.mk' fk_sym hcx with hF := facts w.params }
  have e1 : c.toCx = pre.mk' fk_sym hcx := rfl
  have I : Inv c.toCx [] (fun _ => none) (fun b => if b = l then some (.frz ns) else none) s₁.heap := by
    refine ⟨fun _ _ e => e, fun _ _ e => (by cases e), fun _ _ e => (by cases e), fun a o e => ?_, fun e he => (by cases he)⟩
    split at e
    · rename_i q; subst q; cases e; exact ⟨.inr rfl, _, hL, hI⟩
    · cases e
  have L := law c ns l (fun b => if b = l then some (.frz ns) else none) (by omega) (if_pos rfl) (fun b hb => if_neg hb)
  have hac : ACtx callerA [] 190 := ⟨fun _ => rfl, by decide, rfl, by decide⟩
  have W := L callerA [] (fun _ => none) s₁.heap s₁.toks [.ref l] hac I (.cons (.mk_ref _) .nil)
  refine wpAny_mono W (fun v s' p => ?_) (fun e s' p => ?_)
  · obtain ⟨h', t', own', σ', rfl, I', x', k', m, rm, rfl⟩ := p
    rw [rm.bool_inv]
    refine GoodW.toG ⟨.inl ⟨_, .bool true, [], rfl, fun cls => raisesW_false (r := RW.row.toRowW) (fun _ h => (nomatch h)) cls, .bool _, postW_of (r := RW.row.toRowW) rfl (w_eq_bool (w_res rfl) w_lit) (by decide), fun _ => ⟨.nil, fun _ h => (nomatch h)⟩⟩, fun b o e => I'.base b o e, rfl, hg⟩
  · obtain ⟨h', t', own', σ', _, I', x', k', a, C, fs, _, _, p⟩ := p
    exact p.elim
theorem law_ok (c : CX) (ns : List Int) (a : Addr) (σ : Hp) (h : ns.length ≤ 63) (h1 : σ a = some (.frz ns)) (_ : ∀ b, b ≠ a → σ b = none) : CallSpec c.toCx 190 (.ref A.f_law) [.ref a] σ (fun v _ => v = .bool true) (fun _ _ => False) :=
  law_s (t := {}) (by decide) h1 (by omega) fun _ => rfl
end Mine
end
set_option maxRecDepth 100000 in
set_option maxHeartbeats 8000000 in
theorem PySem.Challenge.cw_nn0340_02_holds : PySem.Challenge.rw_nn0340_02.Holds := by
  exact Mine.head (Mine.walk_of Mine.law_ok)
