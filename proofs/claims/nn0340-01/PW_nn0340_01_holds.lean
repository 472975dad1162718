import PyProof.Rows.All
import Wide.FinOn
import OpenK.AllK
import Wide.All
import Lean
import PySem.Challenge.RW_nn0340_01
set_option Elab.async false
set_option tactic.hygienic false
set_option genInjectivity false
set_option genSizeOf false
set_option compiler.extract_closed false
set_option linter.all false
section
open PySem PySem.W PyProof.Rows
set_option maxRecDepth 100000
namespace Mine
section
variable {tb:String→Option Builtin} {p:Program} {w:World} {n₀:Nat} {ann:Option Value}
noncomputable def topS (tb:String→Option Builtin) (p:Program) (w:World) (n₀:Nat) (ann:Option Value) (k:SharedT→Thread→Option SharedT) (s:SharedT) (t:Thread):Option SharedT:=
 bif through t then some s else bif PySem.W.Fast.tw6613529449190102663 n₀ ann t then(PySem.W.Fast.tw10156331382660048174 (PySem.W.Fast.tw11892475500146522536 tb) p w s t).bind fun x=>k x.1 x.2 else none
noncomputable def topT (tb:String→Option Builtin) (p:Program) (w:World) (n₀:Nat) (ann:Option Value) (n:Nat):SharedT→Thread→Option SharedT:=n.rec (fun _ _=>none) fun _ k=>topS tb p w n₀ ann k
theorem x1l {n:Nat} {s:Shared} {t:Thread} (h:through t=true):topRun tb p w n₀ ann (n+1) s t=some s:=by
 show(match through t with
  |true=>some s
  |false=>match stepOk n₀ ann t with
   |false=>none
   |true=>match step (denote tb) p w s t with
    |.go s' t'=>topRun tb p w n₀ ann n s' t'
    |.halt _ _=>none)=_
 rw [h]
theorem x5d {n:Nat} {s s1:Shared} {t t1:Thread} (h:through t=false) (h1:stepOk n₀ ann t=true) (h2:step (denote tb) p w s t=.go s1 t1):topRun tb p w n₀ ann (n+1) s t=topRun tb p w n₀ ann n s1 t1:=by
 show(match through t with
  |true=>some s
  |false=>match stepOk n₀ ann t with
   |false=>none
   |true=>match step (denote tb) p w s t with
    |.go s' t'=>topRun tb p w n₀ ann n s' t'
    |.halt _ _=>none)=_
 rw [h,h1,h2]
theorem x1f {k:SharedT→Thread→Option SharedT} {s:SharedT} {t:Thread}:topS tb p w n₀ ann k s t=bif through t then some s else bif stepOk n₀ ann t then(stepT (denote tb) p w s t).bind fun x=>k x.1 x.2 else none:=by
 rw [PySem.W.Fast.te6613529449190102663,PySem.W.Fast.te10156331382660048174,PySem.W.Fast.te11892475500146522536];rfl
theorem w1z {n:Nat} {s s':SharedT} {t:Thread} (h:topT tb p w n₀ ann n s t=some s'):topRun tb p w n₀ ann n s.abs t=some s'.abs:=by
 induction n generalizing s t with
 |zero=>exact nomatch h
 |succ n ih=>
  have h:=x1f.symm.trans h
  cases ht:through t with
  |true=>rw [ht]at h;exact Option.some.inj h▸x1l ht
  |false=>
   rw [ht]at h
   cases hk:stepOk n₀ ann t with
   |false=>rw [hk]at h;exact nomatch h
   |true=>rw [hk]at h;exact Exists.elim (Option.bind_eq_some_iff.mp h) fun r e=>(x5d ht hk (stepT_spec e.1)).trans (ih e.2)
end
theorem x1y {p q:Program} {loose:List Str} {Xt:Shared→Bool} {α:Type} {Yf:Shared→α} {Ya:World→α} {N:Nat} {g0:Bool} {H₀:Params→Heap} {T₀:Params→BT} {life:Life} {d₀:Drawn} {k₀:Nat} {m₀:Nat} {ann:Option Value}
  (open_:∀w:World,(fencedOpening treeTable p w N).map (fun s=>(s.heap,s.gens,s.drawn,s.toks))=some (H₀ w.params,#[],d₀,k₀))
  (hb:∀P,H₀ P=absHeap (T₀ P) m₀ life)
  (size:∀w:World,((H₀ w.params).isNs mainGlobals,(H₀ w.params).objs.size,(H₀ w.params).nsMap mainGlobals "__annotations__")=(true,m₀,ann))
  (run:∀(w:World) (os:OsState),(topT treeTable p w m₀ ann N ⟨T₀ w.params,m₀,life,#[],d₀,k₀,os⟩ (topStub p)).map (fun s=>
    ((staticsOk (importedModules p.main.body) (H₀ w.params) s.abs.heap && namesBound p s.abs.heap && gensDone s.abs && laidKept (H₀ w.params) s.abs.heap),openSeen q loose (importedModules p.main.body) Xt g0 s.abs,Yf s.abs))=
   some (true,openGood q loose,Ya w)):LeftO p q loose Xt Yf Ya N g0:=fun w=>by
 obtain⟨⟨h,gs,d,k,os⟩,e,e'⟩:=Option.map_eq_some_iff.mp (open_ w)
 obtain⟨rfl,rfl,rfl,rfl⟩:h=H₀ w.params∧gs=#[]∧d=d₀∧k=k₀:=by simpa using e'
 obtain⟨z1,z2,z3⟩:_∧_∧_:=by simpa only [Prod.mk.injEq] using size w
 obtain⟨s₁,r,l⟩:=Option.map_eq_some_iff.mp (run w os)
 obtain⟨l1,l2,l3⟩:_∧_∧_:=by simpa only [Prod.mk.injEq] using l
 have r:=w1z r
 have t:topFrom treeTable p w N ⟨H₀ w.params,#[],d,k,os⟩=some s₁.abs:=by
  unfold topFrom
  dsimp only
  have r':topRun treeTable p w m₀ ann N ⟨H₀ w.params,#[],d,k,os⟩ (topStub p)=some s₁.abs:=by rw [hb];exact r
  rw [z1,z2,z3,r']
  show(match staticsOk (importedModules p.main.body) (H₀ w.params) s₁.abs.heap && namesBound p s₁.abs.heap && gensDone s₁.abs && laidKept (H₀ w.params) s₁.abs.heap with|true=>_|false=>_)=_
  rw [l1]
 unfold openEnds
 rw [e]
 show(topFrom treeTable p w N _).map _=_
 rw [t]
 exact congrArg some (Prod.ext l2 l3)
noncomputable def x4m (l:List Obj):BT:=(l.foldl (fun(x:BT×Nat) o=>(x.1.ins x.2 o,x.2+1)) (.nil,0)).1
end Mine
end
section
open PySem PySem.W PyProof.Rows
set_option maxRecDepth 100000
set_option maxHeartbeats 0
namespace Mine
noncomputable abbrev PG:Program:=PySem.Challenge.pw_nn0340_01
noncomputable abbrev RW:OpenLaw:=PySem.Challenge.rw_nn0340_01
noncomputable def y0h:Nat:=113
noncomputable def dE (P:Params) (s:Str) (t:Nat) (v:Value):DictEntry:=⟨PyData.keyHash P s,.str s t,v⟩
noncomputable def stA (i:Nat):Option Stmt:=PG.main.body[i]?
noncomputable def x3k (e:Stmt):List Stmt:=@Stmt.casesOn (fun _=>List Stmt) e (fun _ _ _ _ _ _ _ _ _ _=>[]) (fun _ _ _ _ _ _ _ _ _ _=>[]) (fun _ _ _ b _ _ _ _ _ _ _=>b) (fun _ _=>[]) (fun _ _=>[]) (fun _ _ _=>[]) (fun _ _ _ _ _ _ _=>[]) (fun _ _ _ _=>[]) (fun _ _ _ _ _=>[]) (fun _ _ _ _ _=>[]) (fun _ _ _ _ _=>[]) (fun _ _ _ _=>[]) (fun _ _ _ _=>[]) (fun _ _ _=>[]) (fun _ _ _=>[]) (fun _ _ _=>[]) (fun _ _ _=>[]) (fun _ _ _ _ _=>[]) (fun _ _ _ _ _=>[]) (fun _ _ _=>[]) (fun _ _=>[]) (fun _ _ _ _=>[]) (fun _ _=>[]) (fun _ _=>[]) (fun _ _=>[]) (fun _=>[]) (fun _=>[]) (fun _=>[])
noncomputable def stI (i j:Nat):Option Stmt:=PG.main.body[i]?.bind fun s=>(x3k s)[j]?
noncomputable def fnA (e:Stmt):Arguments×List Stmt×Scope:=@Stmt.casesOn (fun _=>Arguments×List Stmt×Scope) e (fun _ a b _ _ _ s _ _ _=>(a,b,s)) (fun _ _ _ _ _ _ _ _ _ _=>(⟨[],[],none,[],[],none,[]⟩,[],default)) (fun _ _ _ _ _ _ _ _ _ _ _=>(⟨[],[],none,[],[],none,[]⟩,[],default)) (fun _ _=>(⟨[],[],none,[],[],none,[]⟩,[],default)) (fun _ _=>(⟨[],[],none,[],[],none,[]⟩,[],default)) (fun _ _ _=>(⟨[],[],none,[],[],none,[]⟩,[],default)) (fun _ _ _ _ _ _ _=>(⟨[],[],none,[],[],none,[]⟩,[],default)) (fun _ _ _ _=>(⟨[],[],none,[],[],none,[]⟩,[],default)) (fun _ _ _ _ _=>(⟨[],[],none,[],[],none,[]⟩,[],default)) (fun _ _ _ _ _=>(⟨[],[],none,[],[],none,[]⟩,[],default)) (fun _ _ _ _ _=>(⟨[],[],none,[],[],none,[]⟩,[],default)) (fun _ _ _ _=>(⟨[],[],none,[],[],none,[]⟩,[],default)) (fun _ _ _ _=>(⟨[],[],none,[],[],none,[]⟩,[],default)) (fun _ _ _=>(⟨[],[],none,[],[],none,[]⟩,[],default)) (fun _ _ _=>(⟨[],[],none,[],[],none,[]⟩,[],default)) (fun _ _ _=>(⟨[],[],none,[],[],none,[]⟩,[],default)) (fun _ _ _=>(⟨[],[],none,[],[],none,[]⟩,[],default)) (fun _ _ _ _ _=>(⟨[],[],none,[],[],none,[]⟩,[],default)) (fun _ _ _ _ _=>(⟨[],[],none,[],[],none,[]⟩,[],default)) (fun _ _ _=>(⟨[],[],none,[],[],none,[]⟩,[],default)) (fun _ _=>(⟨[],[],none,[],[],none,[]⟩,[],default)) (fun _ _ _ _=>(⟨[],[],none,[],[],none,[]⟩,[],default)) (fun _ _=>(⟨[],[],none,[],[],none,[]⟩,[],default)) (fun _ _=>(⟨[],[],none,[],[],none,[]⟩,[],default)) (fun _ _=>(⟨[],[],none,[],[],none,[]⟩,[],default)) (fun _=>(⟨[],[],none,[],[],none,[]⟩,[],default)) (fun _=>(⟨[],[],none,[],[],none,[]⟩,[],default)) (fun _=>(⟨[],[],none,[],[],none,[]⟩,[],default))
noncomputable def fnO (s:Option Stmt) (name qual:Str) (g:Addr) (dv kv doc pm:Value) (an:Option Addr) (cd ct:Value) (bi:Addr):FuncData:=match s with
 |some s=>⟨name,qual,(fnA s).1,.stmts (fnA s).2.1,(fnA s).2.2,g,[],dv,kv,doc,pm,an,cd,ct,bi⟩
 |none=>⟨name,qual,⟨[],[],none,[],[],none,[]⟩,.stmts [],default,g,[],dv,kv,doc,pm,an,cd,ct,bi⟩
noncomputable def ko2 (P:Params):Obj:=⟨.none,none,(.dict #[(dE P "type.__subclasses__.Exception.0" 228 (.int 39 0)),(dE P "type.__subclasses__.Exception.n" 229 (.int 1 0))] 2),#[]⟩
noncomputable def ko3 (P:Params):Obj:=⟨(.type "dict"),none,(.dict #[(dE P "__name__" 165 (.str "law_nn0340_01" 1365)),(dE P "__doc__" 166 .none),(dE P "__package__" 167 .none),(dE P "__loader__" 168 (.builtin "__main__.__loader__#opaque")),(dE P "__spec__" 169 .none),(dE P "__annotations__" 170 (.ref 6)),(dE P "__builtins__" 171 (.ref 4)),(dE P "__file__" 173 (.str "/claim/cut.py" 172)),(dE P "__cached__" 174 .none),(dE P "_wall" 193 (.ref 21)),(dE P "GateloomError" 231 (.ref 39)),(dE P "DesignError" 247 (.ref 52)),(dE P "LimitReached" 263 (.ref 64)),(dE P "mask" 272 (.ref 73)),(dE P "vec" 283 (.ref 81)),(dE P "zeros" 290 (.ref 88)),(dE P "all_x" 298 (.ref 95)),(dE P "all_z" 305 (.ref 102)),(dE P "from_int" 313 (.ref 109)),(dE P "is_known" 320 (.ref 116)),(dE P "to_int" 331 (.ref 123)),(dE P "code" 339 (.ref 130)),(dE P "slice_vec" 355 (.ref 137)),(dE P "put_slice" 371 (.ref 144)),(dE P "concat" 382 (.ref 151)),(dE P "extend" 395 (.ref 158)),(dE P "z_to_x" 402 (.ref 165)),(dE P "truth" 409 (.ref 172)),(dE P "add" 419 (.ref 179)),(dE P "sub" 427 (.ref 186)),(dE P "mul" 435 (.ref 193)),(dE P "neg" 442 (.ref 200)),(dE P "quotient" 451 (.ref 207)),(dE P "div" 462 (.ref 214)),(dE P "mod" 473 (.ref 221)),(dE P "raise_whole" 486 (.ref 228)),(dE P "power" 499 (.ref 235)),(dE P "shift_left" 509 (.ref 242)),(dE P "shift_right" 518 (.ref 249)),(dE P "shift_arith" 533 (.ref 256)),(dE P "ordered" 544 (.ref 263)),(dE P "less" 554 (.ref 270)),(dE P "less_equal" 564 (.ref 277)),(dE P "greater" 573 (.ref 284)),(dE P "greater_equal" 582 (.ref 291)),(dE P "one_bit" 591 (.ref 298)),(dE P "bit_not" 601 (.ref 305)),(dE P "bit_and" 615 (.ref 312)),(dE P "bit_or" 630 (.ref 319)),(dE P "bit_xor" 639 (.ref 326)),(dE P "bit_xnor" 647 (.ref 333)),(dE P "reduce_and" 657 (.ref 340)),(dE P "reduce_nand" 664 (.ref 347)),(dE P "reduce_or" 671 (.ref 354)),(dE P "reduce_nor" 678 (.ref 361)),(dE P "reduce_xor" 687 (.ref 368)),(dE P "reduce_xnor" 694 (.ref 375)),(dE P "logic_not" 701 (.ref 382)),(dE P "logic_and" 709 (.ref 389)),(dE P "logic_or" 717 (.ref 396)),(dE P "equal" 726 (.ref 403)),(dE P "not_equal" 734 (.ref 410)),(dE P "case_equal" 742 (.ref 417)),(dE P "case_not_equal" 750 (.ref 424)),(dE P "matches" 761 (.ref 431)),(dE P "choose" 774 (.ref 438)),(dE P "unary" 784 (.ref 445)),(dE P "arithmetic" 794 (.ref 452)),(dE P "comparison" 804 (.ref 459)),(dE P "bitwise" 813 (.ref 466)),(dE P "binary" 824 (.ref 473)),(dE P "whole_of" 833 (.ref 480)),(dE P "memory_word" 843 (.ref 487)),(dE P "picked" 853 (.ref 494)),(dE P "conditional" 863 (.ref 501)),(dE P "bits_needed" 871 (.ref 508)),(dE P "system_value" 882 (.ref 515)),(dE P "evaluate" 888 (.ref 520)),(dE P "locate" 897 (.ref 527)),(dE P "holder_width" 905 (.ref 534)),(dE P "resolve_target" 924 (.ref 541)),(dE P "store_rows" 941 (.ref 548)),(dE P "Store" 1009 (.ref 586)),(dE P "Context" 1068 (.ref 629)),(dE P "DEPTH_LIMIT" 1072 (.int 24 1071)),(dE P "FunctionContext" 1139 (.ref 677)),(dE P "run_block" 1149 (.ref 686)),(dE P "run_set" 1159 (.ref 693)),(dE P "run_case" 1172 (.ref 700)),(dE P "run_while" 1183 (.ref 707)),(dE P "run_repeat" 1193 (.ref 714)),(dE P "run_for" 1201 (.ref 721)),(dE P "run_statement" 1210 (.ref 728)),(dE P "Routine" 1264 (.ref 750)),(dE P "Design" 1364 (.ref 813)),(dE P "_law_row" 1377 (.ref 824)),(dE P "_law_next" 1384 (.ref 831)),(dE P "_law_bits" 1396 (.ref 838)),(dE P "_law_made" 1406 (.ref 845)),(dE P "_law_expr" 1417 (.ref 852)),(dE P "_law_test" 1425 (.ref 859)),(dE P "_law_set" 1436 (.ref 866)),(dE P "_law_statement" 1448 (.ref 873)),(dE P "_law_codes" 1454 (.ref 878)),(dE P "_law_figure" 1463 (.ref 885)),(dE P "_law_same" 1473 (.ref 892)),(dE P "_law_value" 1479 (.ref 897)),(dE P "_law_burnt" 1486 (.ref 904)),(dE P "_law_meets" 1498 (.ref 911)),(dE P "_law_loop" 1511 (.ref 918)),(dE P "_law_run" 1517 (.ref 923)),(dE P "_law_called" 1526 (.ref 930)),(dE P "_law_entered" 1536 (.ref 937)),(dE P "law" 1542 (.ref 942))] 114),#[]⟩
noncomputable def ko21:Obj:=⟨(.type "function"),none,(.func (fnO (stA 0) "_wall" "_wall" 3 .none .none .none (.str "__main__" 164) none (.ref 20) .none 0)),#[]⟩
noncomputable def ko29:Obj:=⟨(.type "tuple"),none,(.seq #[(.int (-1) 209),(.str "" 210)] 0),#[]⟩
noncomputable def ko35:Obj:=⟨(.type "code"),none,(.fields #[(.str "__init__" 211),(.str "GateloomError.__init__" 212),(.str "/claim/cut.py" 213),(.int 7 0),(.int 4 0),(.int 0 0),(.int 0 0),(.int 3 0),(.ref 30),(.bool true),(.int 181 0),(.ref 31),.none,(.ref 32),(.ref 33),(.ref 34),(.int 218 0),(.int 7 0),(.str "/claim/cut.py" 219)]),#[]⟩
noncomputable def ko36:Obj:=⟨(.type "function"),none,(.func (fnO (stI 2 0) "__init__" "GateloomError.__init__" 3 (.ref 29) .none .none (.str "gateloom.errors" 194) none (.ref 35) .none 0)),#[]⟩
noncomputable def ko38 (P:Params):Obj:=⟨(.type "dict"),none,(.dict #[(dE P "__module__" 203 (.str "gateloom.errors" 194)),(dE P "__firstlineno__" 207 (.int 5 206)),(dE P "__init__" 220 (.ref 36)),(dE P "__static_attributes__" 224 (.ref 37)),(dE P "__weakref__" 226 (.ref 40)),(dE P "__doc__" 227 .none)] 3),#[]⟩
noncomputable def ko39:Obj:=⟨(.type "type"),none,(.cls ⟨"GateloomError",[(.type "Exception")],[(.ref 39),(.type "Exception"),(.type "BaseException"),(.type "object")],38,"GateloomError",true,[],[(.ref 52),(.ref 64)],false,none,false⟩),#[(some (.ref 22)),none,(some (.str "GateloomError" 196)),(some (.str "GateloomError" 204)),(some (.builtin "Exception.__new__")),(some (.bool true))]⟩
noncomputable def ko51 (P:Params):Obj:=⟨(.type "dict"),none,(.dict #[(dE P "__module__" 239 (.str "gateloom.errors" 194)),(dE P "__firstlineno__" 243 (.int 11 242)),(dE P "__static_attributes__" 244 (.ref 50)),(dE P "__doc__" 245 .none)] 2),#[]⟩
noncomputable def ko52:Obj:=⟨(.type "type"),none,(.cls ⟨"DesignError",[(.ref 39)],[(.ref 52),(.ref 39),(.type "Exception"),(.type "BaseException"),(.type "object")],51,"DesignError",true,[],[],false,none,false⟩),#[(some (.ref 43)),none,(some (.str "DesignError" 232)),(some (.str "DesignError" 240)),(some (.builtin "Exception.__new__")),(some (.bool true))]⟩
noncomputable def ko63 (P:Params):Obj:=⟨(.type "dict"),none,(.dict #[(dE P "__module__" 255 (.str "gateloom.errors" 194)),(dE P "__firstlineno__" 259 (.int 13 258)),(dE P "__static_attributes__" 260 (.ref 62)),(dE P "__doc__" 261 .none)] 2),#[]⟩
noncomputable def ko64:Obj:=⟨(.type "type"),none,(.cls ⟨"LimitReached",[(.ref 39)],[(.ref 64),(.ref 39),(.type "Exception"),(.type "BaseException"),(.type "object")],63,"LimitReached",true,[],[],false,none,false⟩),#[(some (.ref 55)),none,(some (.str "LimitReached" 248)),(some (.str "LimitReached" 256)),(some (.builtin "Exception.__new__")),(some (.bool true))]⟩
noncomputable def ko72:Obj:=⟨(.type "code"),none,(.fields #[(.str "mask" 266),(.str "mask" 267),(.str "/claim/cut.py" 268),(.int 16 0),(.int 1 0),(.int 0 0),(.int 0 0),(.int 3 0),(.ref 67),(.bool true),(.int 181 0),(.ref 68),.none,(.ref 69),(.ref 70),(.ref 71),(.int 270 0),(.int 16 0),(.str "/claim/cut.py" 271)]),#[]⟩
noncomputable def ko73:Obj:=⟨(.type "function"),none,(.func (fnO (stA 6) "mask" "mask" 3 .none .none .none (.str "gateloom.vec" 264) none (.ref 72) .none 0)),#[]⟩
noncomputable def ko74:Obj:=⟨(.type "tuple"),none,(.seq #[(.int 0 273)] 0),#[]⟩
noncomputable def ko80:Obj:=⟨(.type "code"),none,(.fields #[(.str "vec" 274),(.str "vec" 275),(.str "/claim/cut.py" 276),(.int 18 0),(.int 3 0),(.int 0 0),(.int 0 0),(.int 3 0),(.ref 75),(.bool true),(.int 181 0),(.ref 76),.none,(.ref 77),(.ref 78),(.ref 79),(.int 281 0),(.int 18 0),(.str "/claim/cut.py" 282)]),#[]⟩
noncomputable def ko81:Obj:=⟨(.type "function"),none,(.func (fnO (stA 7) "vec" "vec" 3 (.ref 74) .none .none (.str "gateloom.vec" 264) none (.ref 80) .none 0)),#[]⟩
noncomputable def ko88:Obj:=⟨(.type "function"),none,(.func (fnO (stA 8) "zeros" "zeros" 3 .none .none .none (.str "gateloom.vec" 264) none (.ref 87) .none 0)),#[]⟩
noncomputable def ko94:Obj:=⟨(.type "code"),none,(.fields #[(.str "all_x" 291),(.str "all_x" 292),(.str "/claim/cut.py" 293),(.int 23 0),(.int 1 0),(.int 0 0),(.int 0 0),(.int 3 0),(.ref 89),(.bool true),(.int 181 0),(.ref 90),.none,(.ref 91),(.ref 92),(.ref 93),(.int 296 0),(.int 23 0),(.str "/claim/cut.py" 297)]),#[]⟩
noncomputable def ko95:Obj:=⟨(.type "function"),none,(.func (fnO (stA 9) "all_x" "all_x" 3 .none .none .none (.str "gateloom.vec" 264) none (.ref 94) .none 0)),#[]⟩
noncomputable def y7v:Obj:=⟨(.type "function"),none,(.func (fnO (stA 10) "all_z" "all_z" 3 .none .none .none (.str "gateloom.vec" 264) none (.ref 101) .none 0)),#[]⟩
noncomputable def y7u:Obj:=⟨(.type "code"),none,(.fields #[(.str "from_int" 306),(.str "from_int" 307),(.str "/claim/cut.py" 308),(.int 28 0),(.int 2 0),(.int 0 0),(.int 0 0),(.int 3 0),(.ref 103),(.bool true),(.int 181 0),(.ref 104),.none,(.ref 105),(.ref 106),(.ref 107),(.int 311 0),(.int 28 0),(.str "/claim/cut.py" 312)]),#[]⟩
noncomputable def y7t:Obj:=⟨(.type "function"),none,(.func (fnO (stA 11) "from_int" "from_int" 3 .none .none .none (.str "gateloom.vec" 264) none (.ref 108) .none 0)),#[]⟩
noncomputable def y7s:Obj:=⟨(.type "code"),none,(.fields #[(.str "is_known" 314),(.str "is_known" 315),(.str "/claim/cut.py" 316),(.int 30 0),(.int 1 0),(.int 0 0),(.int 0 0),(.int 3 0),(.ref 110),(.bool true),(.int 181 0),(.ref 111),.none,(.ref 112),(.ref 113),(.ref 114),(.int 318 0),(.int 30 0),(.str "/claim/cut.py" 319)]),#[]⟩
noncomputable def y7r:Obj:=⟨(.type "function"),none,(.func (fnO (stA 12) "is_known" "is_known" 3 .none .none .none (.str "gateloom.vec" 264) none (.ref 115) .none 0)),#[]⟩
noncomputable def y7q:Obj:=⟨(.type "code"),none,(.fields #[(.str "to_int" 321),(.str "to_int" 322),(.str "/claim/cut.py" 323),(.int 32 0),(.int 2 0),(.int 0 0),(.int 0 0),(.int 3 0),(.ref 117),(.bool true),(.int 181 0),(.ref 118),.none,(.ref 119),(.ref 120),(.ref 121),(.int 329 0),(.int 32 0),(.str "/claim/cut.py" 330)]),#[]⟩
noncomputable def y7p:Obj:=⟨(.type "function"),none,(.func (fnO (stA 13) "to_int" "to_int" 3 .none .none .none (.str "gateloom.vec" 264) none (.ref 122) .none 0)),#[]⟩
noncomputable def y7o:Obj:=⟨(.type "code"),none,(.fields #[(.str "code" 332),(.str "code" 333),(.str "/claim/cut.py" 334),(.int 39 0),(.int 2 0),(.int 0 0),(.int 0 0),(.int 3 0),(.ref 124),(.bool true),(.int 181 0),(.ref 125),.none,(.ref 126),(.ref 127),(.ref 128),(.int 337 0),(.int 39 0),(.str "/claim/cut.py" 338)]),#[]⟩
noncomputable def y7n:Obj:=⟨(.type "function"),none,(.func (fnO (stA 14) "code" "code" 3 .none .none .none (.str "gateloom.vec" 264) none (.ref 129) .none 0)),#[]⟩
noncomputable def y7m:Obj:=⟨(.type "code"),none,(.fields #[(.str "slice_vec" 340),(.str "slice_vec" 341),(.str "/claim/cut.py" 342),(.int 41 0),(.int 3 0),(.int 0 0),(.int 0 0),(.int 3 0),(.ref 131),(.bool true),(.int 181 0),(.ref 132),.none,(.ref 133),(.ref 134),(.ref 135),(.int 353 0),(.int 41 0),(.str "/claim/cut.py" 354)]),#[]⟩
noncomputable def y7l:Obj:=⟨(.type "function"),none,(.func (fnO (stA 15) "slice_vec" "slice_vec" 3 .none .none .none (.str "gateloom.vec" 264) none (.ref 136) .none 0)),#[]⟩
noncomputable def y7k:Obj:=⟨(.type "code"),none,(.fields #[(.str "put_slice" 356),(.str "put_slice" 357),(.str "/claim/cut.py" 358),(.int 52 0),(.int 3 0),(.int 0 0),(.int 0 0),(.int 3 0),(.ref 138),(.bool true),(.int 181 0),(.ref 139),.none,(.ref 140),(.ref 141),(.ref 142),(.int 369 0),(.int 52 0),(.str "/claim/cut.py" 370)]),#[]⟩
noncomputable def y7j:Obj:=⟨(.type "function"),none,(.func (fnO (stA 16) "put_slice" "put_slice" 3 .none .none .none (.str "gateloom.vec" 264) none (.ref 143) .none 0)),#[]⟩
noncomputable def y7i:Obj:=⟨(.type "function"),none,(.func (fnO (stA 17) "concat" "concat" 3 .none .none .none (.str "gateloom.vec" 264) none (.ref 150) .none 0)),#[]⟩
noncomputable def y7h:Obj:=⟨(.type "code"),none,(.fields #[(.str "extend" 383),(.str "extend" 384),(.str "/claim/cut.py" 385),(.int 72 0),(.int 3 0),(.int 0 0),(.int 0 0),(.int 3 0),(.ref 152),(.bool true),(.int 181 0),(.ref 153),.none,(.ref 154),(.ref 155),(.ref 156),(.int 393 0),(.int 72 0),(.str "/claim/cut.py" 394)]),#[]⟩
noncomputable def y7g:Obj:=⟨(.type "function"),none,(.func (fnO (stA 18) "extend" "extend" 3 .none .none .none (.str "gateloom.vec" 264) none (.ref 157) .none 0)),#[]⟩
noncomputable def y7f:Obj:=⟨(.type "code"),none,(.fields #[(.str "z_to_x" 396),(.str "z_to_x" 397),(.str "/claim/cut.py" 398),(.int 82 0),(.int 1 0),(.int 0 0),(.int 0 0),(.int 3 0),(.ref 159),(.bool true),(.int 181 0),(.ref 160),.none,(.ref 161),(.ref 162),(.ref 163),(.int 400 0),(.int 82 0),(.str "/claim/cut.py" 401)]),#[]⟩
noncomputable def y7e:Obj:=⟨(.type "function"),none,(.func (fnO (stA 19) "z_to_x" "z_to_x" 3 .none .none .none (.str "gateloom.vec" 264) none (.ref 164) .none 0)),#[]⟩
noncomputable def y7d:Obj:=⟨(.type "code"),none,(.fields #[(.str "truth" 403),(.str "truth" 404),(.str "/claim/cut.py" 405),(.int 84 0),(.int 1 0),(.int 0 0),(.int 0 0),(.int 3 0),(.ref 166),(.bool true),(.int 181 0),(.ref 167),.none,(.ref 168),(.ref 169),(.ref 170),(.int 407 0),(.int 84 0),(.str "/claim/cut.py" 408)]),#[]⟩
noncomputable def y7c:Obj:=⟨(.type "function"),none,(.func (fnO (stA 20) "truth" "truth" 3 .none .none .none (.str "gateloom.vec" 264) none (.ref 171) .none 0)),#[]⟩
noncomputable def y7b:Obj:=⟨(.type "code"),none,(.fields #[(.str "add" 412),(.str "add" 413),(.str "/claim/cut.py" 414),(.int 91 0),(.int 2 0),(.int 0 0),(.int 0 0),(.int 3 0),(.ref 173),(.bool true),(.int 181 0),(.ref 174),.none,(.ref 175),(.ref 176),(.ref 177),(.int 417 0),(.int 91 0),(.str "/claim/cut.py" 418)]),#[]⟩
noncomputable def y7a:Obj:=⟨(.type "function"),none,(.func (fnO (stA 22) "add" "add" 3 .none .none .none (.str "gateloom.vecarith" 410) none (.ref 178) .none 0)),#[]⟩
noncomputable def y6z:Obj:=⟨(.type "code"),none,(.fields #[(.str "sub" 420),(.str "sub" 421),(.str "/claim/cut.py" 422),(.int 95 0),(.int 2 0),(.int 0 0),(.int 0 0),(.int 3 0),(.ref 180),(.bool true),(.int 181 0),(.ref 181),.none,(.ref 182),(.ref 183),(.ref 184),(.int 425 0),(.int 95 0),(.str "/claim/cut.py" 426)]),#[]⟩
noncomputable def y6y:Obj:=⟨(.type "function"),none,(.func (fnO (stA 23) "sub" "sub" 3 .none .none .none (.str "gateloom.vecarith" 410) none (.ref 185) .none 0)),#[]⟩
noncomputable def y6x:Obj:=⟨(.type "function"),none,(.func (fnO (stA 24) "mul" "mul" 3 .none .none .none (.str "gateloom.vecarith" 410) none (.ref 192) .none 0)),#[]⟩
noncomputable def y6w:Obj:=⟨(.type "function"),none,(.func (fnO (stA 25) "neg" "neg" 3 .none .none .none (.str "gateloom.vecarith" 410) none (.ref 199) .none 0)),#[]⟩
noncomputable def y6v:Obj:=⟨(.type "function"),none,(.func (fnO (stA 26) "quotient" "quotient" 3 .none .none .none (.str "gateloom.vecarith" 410) none (.ref 206) .none 0)),#[]⟩
noncomputable def y6u:Obj:=⟨(.type "function"),none,(.func (fnO (stA 27) "div" "div" 3 .none .none .none (.str "gateloom.vecarith" 410) none (.ref 213) .none 0)),#[]⟩
noncomputable def y6t:Obj:=⟨(.type "function"),none,(.func (fnO (stA 28) "mod" "mod" 3 .none .none .none (.str "gateloom.vecarith" 410) none (.ref 220) .none 0)),#[]⟩
noncomputable def y6s:Obj:=⟨(.type "function"),none,(.func (fnO (stA 29) "raise_whole" "raise_whole" 3 .none .none .none (.str "gateloom.vecarith" 410) none (.ref 227) .none 0)),#[]⟩
noncomputable def y6r:Obj:=⟨(.type "function"),none,(.func (fnO (stA 30) "power" "power" 3 .none .none .none (.str "gateloom.vecarith" 410) none (.ref 234) .none 0)),#[]⟩
noncomputable def y6q:Obj:=⟨(.type "function"),none,(.func (fnO (stA 31) "shift_left" "shift_left" 3 .none .none .none (.str "gateloom.vecarith" 410) none (.ref 241) .none 0)),#[]⟩
noncomputable def y6p:Obj:=⟨(.type "function"),none,(.func (fnO (stA 32) "shift_right" "shift_right" 3 .none .none .none (.str "gateloom.vecarith" 410) none (.ref 248) .none 0)),#[]⟩
noncomputable def y6o:Obj:=⟨(.type "function"),none,(.func (fnO (stA 33) "shift_arith" "shift_arith" 3 .none .none .none (.str "gateloom.vecarith" 410) none (.ref 255) .none 0)),#[]⟩
noncomputable def y6n:Obj:=⟨(.type "code"),none,(.fields #[(.str "ordered" 534),(.str "ordered" 535),(.str "/claim/cut.py" 536),(.int 175 0),(.int 3 0),(.int 0 0),(.int 0 0),(.int 3 0),(.ref 257),(.bool true),(.int 181 0),(.ref 258),.none,(.ref 259),(.ref 260),(.ref 261),(.int 542 0),(.int 175 0),(.str "/claim/cut.py" 543)]),#[]⟩
noncomputable def y6m:Obj:=⟨(.type "function"),none,(.func (fnO (stA 34) "ordered" "ordered" 3 .none .none .none (.str "gateloom.vecarith" 410) none (.ref 262) .none 0)),#[]⟩
noncomputable def y6l:Obj:=⟨(.type "code"),none,(.fields #[(.str "less" 545),(.str "less" 546),(.str "/claim/cut.py" 547),(.int 183 0),(.int 3 0),(.int 0 0),(.int 0 0),(.int 3 0),(.ref 264),(.bool true),(.int 181 0),(.ref 265),.none,(.ref 266),(.ref 267),(.ref 268),(.int 552 0),(.int 183 0),(.str "/claim/cut.py" 553)]),#[]⟩
noncomputable def y6k:Obj:=⟨(.type "function"),none,(.func (fnO (stA 35) "less" "less" 3 .none .none .none (.str "gateloom.vecarith" 410) none (.ref 269) .none 0)),#[]⟩
noncomputable def y6j:Obj:=⟨(.type "function"),none,(.func (fnO (stA 36) "less_equal" "less_equal" 3 .none .none .none (.str "gateloom.vecarith" 410) none (.ref 276) .none 0)),#[]⟩
noncomputable def y6i:Obj:=⟨(.type "function"),none,(.func (fnO (stA 37) "greater" "greater" 3 .none .none .none (.str "gateloom.vecarith" 410) none (.ref 283) .none 0)),#[]⟩
noncomputable def y6h:Obj:=⟨(.type "function"),none,(.func (fnO (stA 38) "greater_equal" "greater_equal" 3 .none .none .none (.str "gateloom.vecarith" 410) none (.ref 290) .none 0)),#[]⟩
noncomputable def y6g:Obj:=⟨(.type "code"),none,(.fields #[(.str "one_bit" 585),(.str "one_bit" 586),(.str "/claim/cut.py" 587),(.int 198 0),(.int 1 0),(.int 0 0),(.int 0 0),(.int 3 0),(.ref 292),(.bool true),(.int 181 0),(.ref 293),.none,(.ref 294),(.ref 295),(.ref 296),(.int 589 0),(.int 198 0),(.str "/claim/cut.py" 590)]),#[]⟩
noncomputable def y6f:Obj:=⟨(.type "function"),none,(.func (fnO (stA 40) "one_bit" "one_bit" 3 .none .none .none (.str "gateloom.vecops" 583) none (.ref 297) .none 0)),#[]⟩
noncomputable def y6e:Obj:=⟨(.type "code"),none,(.fields #[(.str "bit_not" 592),(.str "bit_not" 593),(.str "/claim/cut.py" 594),(.int 200 0),(.int 1 0),(.int 0 0),(.int 0 0),(.int 3 0),(.ref 299),(.bool true),(.int 181 0),(.ref 300),.none,(.ref 301),(.ref 302),(.ref 303),(.int 599 0),(.int 200 0),(.str "/claim/cut.py" 600)]),#[]⟩
noncomputable def y6d:Obj:=⟨(.type "function"),none,(.func (fnO (stA 41) "bit_not" "bit_not" 3 .none .none .none (.str "gateloom.vecops" 583) none (.ref 304) .none 0)),#[]⟩
noncomputable def y6c:Obj:=⟨(.type "code"),none,(.fields #[(.str "bit_and" 602),(.str "bit_and" 603),(.str "/claim/cut.py" 604),(.int 203 0),(.int 2 0),(.int 0 0),(.int 0 0),(.int 3 0),(.ref 306),(.bool true),(.int 181 0),(.ref 307),.none,(.ref 308),(.ref 309),(.ref 310),(.int 613 0),(.int 203 0),(.str "/claim/cut.py" 614)]),#[]⟩
noncomputable def y6b:Obj:=⟨(.type "function"),none,(.func (fnO (stA 42) "bit_and" "bit_and" 3 .none .none .none (.str "gateloom.vecops" 583) none (.ref 311) .none 0)),#[]⟩
noncomputable def y6a:Obj:=⟨(.type "function"),none,(.func (fnO (stA 43) "bit_or" "bit_or" 3 .none .none .none (.str "gateloom.vecops" 583) none (.ref 318) .none 0)),#[]⟩
noncomputable def y5z:Obj:=⟨(.type "code"),none,(.fields #[(.str "bit_xor" 631),(.str "bit_xor" 632),(.str "/claim/cut.py" 633),(.int 214 0),(.int 2 0),(.int 0 0),(.int 0 0),(.int 3 0),(.ref 320),(.bool true),(.int 181 0),(.ref 321),.none,(.ref 322),(.ref 323),(.ref 324),(.int 637 0),(.int 214 0),(.str "/claim/cut.py" 638)]),#[]⟩
noncomputable def y5y:Obj:=⟨(.type "function"),none,(.func (fnO (stA 44) "bit_xor" "bit_xor" 3 .none .none .none (.str "gateloom.vecops" 583) none (.ref 325) .none 0)),#[]⟩
noncomputable def y5x:Obj:=⟨(.type "function"),none,(.func (fnO (stA 45) "bit_xnor" "bit_xnor" 3 .none .none .none (.str "gateloom.vecops" 583) none (.ref 332) .none 0)),#[]⟩
noncomputable def y5w:Obj:=⟨(.type "function"),none,(.func (fnO (stA 46) "reduce_and" "reduce_and" 3 .none .none .none (.str "gateloom.vecops" 583) none (.ref 339) .none 0)),#[]⟩
noncomputable def y5v:Obj:=⟨(.type "function"),none,(.func (fnO (stA 47) "reduce_nand" "reduce_nand" 3 .none .none .none (.str "gateloom.vecops" 583) none (.ref 346) .none 0)),#[]⟩
noncomputable def y5u:Obj:=⟨(.type "function"),none,(.func (fnO (stA 48) "reduce_or" "reduce_or" 3 .none .none .none (.str "gateloom.vecops" 583) none (.ref 353) .none 0)),#[]⟩
noncomputable def y5t:Obj:=⟨(.type "function"),none,(.func (fnO (stA 49) "reduce_nor" "reduce_nor" 3 .none .none .none (.str "gateloom.vecops" 583) none (.ref 360) .none 0)),#[]⟩
noncomputable def y5s:Obj:=⟨(.type "function"),none,(.func (fnO (stA 50) "reduce_xor" "reduce_xor" 3 .none .none .none (.str "gateloom.vecops" 583) none (.ref 367) .none 0)),#[]⟩
noncomputable def y5r:Obj:=⟨(.type "function"),none,(.func (fnO (stA 51) "reduce_xnor" "reduce_xnor" 3 .none .none .none (.str "gateloom.vecops" 583) none (.ref 374) .none 0)),#[]⟩
noncomputable def y5q:Obj:=⟨(.type "function"),none,(.func (fnO (stA 52) "logic_not" "logic_not" 3 .none .none .none (.str "gateloom.vecops" 583) none (.ref 381) .none 0)),#[]⟩
noncomputable def y5p:Obj:=⟨(.type "function"),none,(.func (fnO (stA 53) "logic_and" "logic_and" 3 .none .none .none (.str "gateloom.vecops" 583) none (.ref 388) .none 0)),#[]⟩
noncomputable def y5o:Obj:=⟨(.type "function"),none,(.func (fnO (stA 54) "logic_or" "logic_or" 3 .none .none .none (.str "gateloom.vecops" 583) none (.ref 395) .none 0)),#[]⟩
noncomputable def y5n:Obj:=⟨(.type "code"),none,(.fields #[(.str "equal" 718),(.str "equal" 719),(.str "/claim/cut.py" 720),(.int 247 0),(.int 2 0),(.int 0 0),(.int 0 0),(.int 3 0),(.ref 397),(.bool true),(.int 181 0),(.ref 398),.none,(.ref 399),(.ref 400),(.ref 401),(.int 724 0),(.int 247 0),(.str "/claim/cut.py" 725)]),#[]⟩
noncomputable def y5m:Obj:=⟨(.type "function"),none,(.func (fnO (stA 55) "equal" "equal" 3 .none .none .none (.str "gateloom.vecops" 583) none (.ref 402) .none 0)),#[]⟩
noncomputable def y5l:Obj:=⟨(.type "code"),none,(.fields #[(.str "not_equal" 727),(.str "not_equal" 728),(.str "/claim/cut.py" 729),(.int 252 0),(.int 2 0),(.int 0 0),(.int 0 0),(.int 3 0),(.ref 404),(.bool true),(.int 181 0),(.ref 405),.none,(.ref 406),(.ref 407),(.ref 408),(.int 732 0),(.int 252 0),(.str "/claim/cut.py" 733)]),#[]⟩
noncomputable def y5k:Obj:=⟨(.type "function"),none,(.func (fnO (stA 56) "not_equal" "not_equal" 3 .none .none .none (.str "gateloom.vecops" 583) none (.ref 409) .none 0)),#[]⟩
noncomputable def y5j:Obj:=⟨(.type "function"),none,(.func (fnO (stA 57) "case_equal" "case_equal" 3 .none .none .none (.str "gateloom.vecops" 583) none (.ref 416) .none 0)),#[]⟩
noncomputable def y5i:Obj:=⟨(.type "function"),none,(.func (fnO (stA 58) "case_not_equal" "case_not_equal" 3 .none .none .none (.str "gateloom.vecops" 583) none (.ref 423) .none 0)),#[]⟩
noncomputable def y5h:Obj:=⟨(.type "code"),none,(.fields #[(.str "matches" 751),(.str "matches" 752),(.str "/claim/cut.py" 753),(.int 258 0),(.int 3 0),(.int 0 0),(.int 0 0),(.int 3 0),(.ref 425),(.bool true),(.int 181 0),(.ref 426),.none,(.ref 427),(.ref 428),(.ref 429),(.int 759 0),(.int 258 0),(.str "/claim/cut.py" 760)]),#[]⟩
noncomputable def y5g:Obj:=⟨(.type "function"),none,(.func (fnO (stA 59) "matches" "matches" 3 .none .none .none (.str "gateloom.vecops" 583) none (.ref 430) .none 0)),#[]⟩
noncomputable def y5f:Obj:=⟨(.type "code"),none,(.fields #[(.str "choose" 762),(.str "choose" 763),(.str "/claim/cut.py" 764),(.int 266 0),(.int 3 0),(.int 0 0),(.int 0 0),(.int 3 0),(.ref 432),(.bool true),(.int 181 0),(.ref 433),.none,(.ref 434),(.ref 435),(.ref 436),(.int 772 0),(.int 266 0),(.str "/claim/cut.py" 773)]),#[]⟩
noncomputable def y5e:Obj:=⟨(.type "function"),none,(.func (fnO (stA 60) "choose" "choose" 3 .none .none .none (.str "gateloom.vecops" 583) none (.ref 437) .none 0)),#[]⟩
noncomputable def y5d:Obj:=⟨(.type "function"),none,(.func (fnO (stA 62) "unary" "unary" 3 .none .none .none (.str "gateloom.evaluate" 775) none (.ref 444) .none 0)),#[]⟩
noncomputable def y5c:Obj:=⟨(.type "code"),none,(.fields #[(.str "arithmetic" 785),(.str "arithmetic" 786),(.str "/claim/cut.py" 787),(.int 297 0),(.int 4 0),(.int 0 0),(.int 0 0),(.int 3 0),(.ref 446),(.bool true),(.int 181 0),(.ref 447),.none,(.ref 448),(.ref 449),(.ref 450),(.int 792 0),(.int 297 0),(.str "/claim/cut.py" 793)]),#[]⟩
noncomputable def y5b:Obj:=⟨(.type "function"),none,(.func (fnO (stA 63) "arithmetic" "arithmetic" 3 .none .none .none (.str "gateloom.evaluate" 775) none (.ref 451) .none 0)),#[]⟩
noncomputable def y5a:Obj:=⟨(.type "code"),none,(.fields #[(.str "comparison" 795),(.str "comparison" 796),(.str "/claim/cut.py" 797),(.int 315 0),(.int 4 0),(.int 0 0),(.int 0 0),(.int 3 0),(.ref 453),(.bool true),(.int 181 0),(.ref 454),.none,(.ref 455),(.ref 456),(.ref 457),(.int 802 0),(.int 315 0),(.str "/claim/cut.py" 803)]),#[]⟩
noncomputable def y4z:Obj:=⟨(.type "function"),none,(.func (fnO (stA 64) "comparison" "comparison" 3 .none .none .none (.str "gateloom.evaluate" 775) none (.ref 458) .none 0)),#[]⟩
noncomputable def y4y:Obj:=⟨(.type "code"),none,(.fields #[(.str "bitwise" 805),(.str "bitwise" 806),(.str "/claim/cut.py" 807),(.int 333 0),(.int 3 0),(.int 0 0),(.int 0 0),(.int 3 0),(.ref 460),(.bool true),(.int 181 0),(.ref 461),.none,(.ref 462),(.ref 463),(.ref 464),(.int 811 0),(.int 333 0),(.str "/claim/cut.py" 812)]),#[]⟩
noncomputable def y4x:Obj:=⟨(.type "function"),none,(.func (fnO (stA 65) "bitwise" "bitwise" 3 .none .none .none (.str "gateloom.evaluate" 775) none (.ref 465) .none 0)),#[]⟩
noncomputable def y4w:Obj:=⟨(.type "code"),none,(.fields #[(.str "binary" 814),(.str "binary" 815),(.str "/claim/cut.py" 816),(.int 347 0),(.int 4 0),(.int 0 0),(.int 0 0),(.int 3 0),(.ref 467),(.bool true),(.int 181 0),(.ref 468),.none,(.ref 469),(.ref 470),(.ref 471),(.int 822 0),(.int 347 0),(.str "/claim/cut.py" 823)]),#[]⟩
noncomputable def y4v:Obj:=⟨(.type "function"),none,(.func (fnO (stA 66) "binary" "binary" 3 .none .none .none (.str "gateloom.evaluate" 775) none (.ref 472) .none 0)),#[]⟩
noncomputable def y4u:Obj:=⟨(.type "code"),none,(.fields #[(.str "whole_of" 825),(.str "whole_of" 826),(.str "/claim/cut.py" 827),(.int 356 0),(.int 3 0),(.int 0 0),(.int 0 0),(.int 3 0),(.ref 474),(.bool true),(.int 181 0),(.ref 475),.none,(.ref 476),(.ref 477),(.ref 478),(.int 831 0),(.int 356 0),(.str "/claim/cut.py" 832)]),#[]⟩
noncomputable def y4t:Obj:=⟨(.type "function"),none,(.func (fnO (stA 67) "whole_of" "whole_of" 3 .none .none .none (.str "gateloom.evaluate" 775) none (.ref 479) .none 0)),#[]⟩
noncomputable def y4s:Obj:=⟨(.type "function"),none,(.func (fnO (stA 68) "memory_word" "memory_word" 3 .none .none .none (.str "gateloom.evaluate" 775) none (.ref 486) .none 0)),#[]⟩
noncomputable def y4r:Obj:=⟨(.type "function"),none,(.func (fnO (stA 69) "picked" "picked" 3 .none .none .none (.str "gateloom.evaluate" 775) none (.ref 493) .none 0)),#[]⟩
noncomputable def y4q:Obj:=⟨(.type "code"),none,(.fields #[(.str "conditional" 854),(.str "conditional" 855),(.str "/claim/cut.py" 856),(.int 372 0),(.int 2 0),(.int 0 0),(.int 0 0),(.int 3 0),(.ref 495),(.bool true),(.int 181 0),(.ref 496),.none,(.ref 497),(.ref 498),(.ref 499),(.int 861 0),(.int 372 0),(.str "/claim/cut.py" 862)]),#[]⟩
noncomputable def y4p:Obj:=⟨(.type "function"),none,(.func (fnO (stA 70) "conditional" "conditional" 3 .none .none .none (.str "gateloom.evaluate" 775) none (.ref 500) .none 0)),#[]⟩
noncomputable def y4o:Obj:=⟨(.type "function"),none,(.func (fnO (stA 71) "bits_needed" "bits_needed" 3 .none .none .none (.str "gateloom.evaluate" 775) none (.ref 507) .none 0)),#[]⟩
noncomputable def y4n:Obj:=⟨(.type "function"),none,(.func (fnO (stA 72) "system_value" "system_value" 3 .none .none .none (.str "gateloom.evaluate" 775) none (.ref 514) .none 0)),#[]⟩
noncomputable def y4m:Obj:=⟨(.type "code"),none,(.fields #[(.str "evaluate" 883),(.str "evaluate" 884),(.str "/claim/cut.py" 885),(.int 398 0),(.int 2 0),(.int 0 0),(.int 0 0),(.int 3 0),(.ref 516),(.bool true),(.int 181 0),(.ref 517),.none,.none,.none,(.ref 518),(.int 886 0),(.int 398 0),(.str "/claim/cut.py" 887)]),#[]⟩
noncomputable def y4l:Obj:=⟨(.type "function"),none,(.func (fnO (stA 73) "evaluate" "evaluate" 3 .none .none .none (.str "gateloom.evaluate" 775) none (.ref 519) .none 0)),#[]⟩
noncomputable def y4k:Obj:=⟨(.type "code"),none,(.fields #[(.str "locate" 889),(.str "locate" 890),(.str "/claim/cut.py" 891),(.int 429 0),(.int 2 0),(.int 0 0),(.int 0 0),(.int 3 0),(.ref 521),(.bool true),(.int 181 0),(.ref 522),.none,(.ref 523),(.ref 524),(.ref 525),(.int 895 0),(.int 429 0),(.str "/claim/cut.py" 896)]),#[]⟩
noncomputable def y4j:Obj:=⟨(.type "function"),none,(.func (fnO (stA 74) "locate" "locate" 3 .none .none .none (.str "gateloom.evaluate" 775) none (.ref 526) .none 0)),#[]⟩
noncomputable def y4i:Obj:=⟨(.type "code"),none,(.fields #[(.str "holder_width" 898),(.str "holder_width" 899),(.str "/claim/cut.py" 900),(.int 436 0),(.int 2 0),(.int 0 0),(.int 0 0),(.int 3 0),(.ref 528),(.bool true),(.int 181 0),(.ref 529),.none,(.ref 530),(.ref 531),(.ref 532),(.int 903 0),(.int 436 0),(.str "/claim/cut.py" 904)]),#[]⟩
noncomputable def y4h:Obj:=⟨(.type "function"),none,(.func (fnO (stA 75) "holder_width" "holder_width" 3 .none .none .none (.str "gateloom.evaluate" 775) none (.ref 533) .none 0)),#[]⟩
noncomputable def y4g:Obj:=⟨(.type "code"),none,(.fields #[(.str "resolve_target" 906),(.str "resolve_target" 907),(.str "/claim/cut.py" 908),(.int 440 0),(.int 2 0),(.int 0 0),(.int 0 0),(.int 3 0),(.ref 535),(.bool true),(.int 181 0),(.ref 536),.none,(.ref 537),(.ref 538),(.ref 539),(.int 922 0),(.int 440 0),(.str "/claim/cut.py" 923)]),#[]⟩
noncomputable def y4f:Obj:=⟨(.type "function"),none,(.func (fnO (stA 76) "resolve_target" "resolve_target" 3 .none .none .none (.str "gateloom.evaluate" 775) none (.ref 540) .none 0)),#[]⟩
noncomputable def y4e:Obj:=⟨(.type "code"),none,(.fields #[(.str "store_rows" 925),(.str "store_rows" 926),(.str "/claim/cut.py" 927),(.int 459 0),(.int 3 0),(.int 0 0),(.int 0 0),(.int 3 0),(.ref 542),(.bool true),(.int 181 0),(.ref 543),.none,(.ref 544),(.ref 545),(.ref 546),(.int 939 0),(.int 459 0),(.str "/claim/cut.py" 940)]),#[]⟩
noncomputable def y4d:Obj:=⟨(.type "function"),none,(.func (fnO (stA 77) "store_rows" "store_rows" 3 .none .none .none (.str "gateloom.evaluate" 775) none (.ref 547) .none 0)),#[]⟩
noncomputable def y4c:Obj:=⟨(.type "code"),none,(.fields #[(.str "__init__" 956),(.str "Store.__init__" 957),(.str "/claim/cut.py" 958),(.int 472 0),(.int 2 0),(.int 0 0),(.int 0 0),(.int 3 0),(.ref 556),(.bool true),(.int 181 0),(.ref 557),.none,(.ref 558),(.ref 559),(.ref 560),(.int 961 0),(.int 472 0),(.str "/claim/cut.py" 962)]),#[]⟩
noncomputable def y4b:Obj:=⟨(.type "function"),none,(.func (fnO (stI 79 0) "__init__" "Store.__init__" 3 .none .none .none (.str "gateloom.store" 942) none (.ref 561) .none 0)),#[]⟩
noncomputable def y4a:Obj:=⟨(.type "code"),none,(.fields #[(.str "get" 964),(.str "Store.get" 965),(.str "/claim/cut.py" 966),(.int 478 0),(.int 2 0),(.int 0 0),(.int 0 0),(.int 3 0),(.ref 563),(.bool true),(.int 181 0),(.ref 564),.none,(.ref 565),(.ref 566),(.ref 567),(.int 971 0),(.int 478 0),(.str "/claim/cut.py" 972)]),#[]⟩
noncomputable def y3z:Obj:=⟨(.type "function"),none,(.func (fnO (stI 79 1) "get" "Store.get" 3 .none .none .none (.str "gateloom.store" 942) none (.ref 568) .none 0)),#[]⟩
noncomputable def y3y:Obj:=⟨(.type "function"),none,(.func (fnO (stI 79 2) "word" "Store.word" 3 .none .none .none (.str "gateloom.store" 942) none (.ref 575) .none 0)),#[]⟩
noncomputable def y3x:Obj:=⟨(.type "code"),none,(.fields #[(.str "set_bits" 985),(.str "Store.set_bits" 986),(.str "/claim/cut.py" 987),(.int 495 0),(.int 5 0),(.int 0 0),(.int 0 0),(.int 3 0),(.ref 577),(.bool true),(.int 181 0),(.ref 578),.none,(.ref 579),(.ref 580),(.ref 581),(.int 995 0),(.int 495 0),(.str "/claim/cut.py" 996)]),#[]⟩
noncomputable def y3w:Obj:=⟨(.type "function"),none,(.func (fnO (stI 79 3) "set_bits" "Store.set_bits" 3 .none .none .none (.str "gateloom.store" 942) none (.ref 582) .none 0)),#[]⟩
noncomputable def y3v (P:Params):Obj:=⟨(.type "dict"),none,(.dict #[(dE P "__module__" 951 (.str "gateloom.store" 942)),(dE P "__firstlineno__" 955 (.int 470 954)),(dE P "__init__" 963 (.ref 562)),(dE P "get" 973 (.ref 569)),(dE P "word" 984 (.ref 576)),(dE P "set_bits" 997 (.ref 583)),(dE P "__static_attributes__" 1002 (.ref 584)),(dE P "__dict__" 1004 (.ref 587)),(dE P "__weakref__" 1006 (.ref 588)),(dE P "__doc__" 1007 .none)] 4),#[]⟩
noncomputable def y3u:Obj:=⟨(.type "type"),none,(.cls ⟨"Store",[(.type "object")],[(.ref 586),(.type "object")],585,"Store",true,[],[],false,none,false⟩),#[none,none,(some (.str "Store" 944)),(some (.str "Store" 952)),(some (.builtin "object.__new__")),(some (.bool true))]⟩
noncomputable def y3t:Obj:=⟨(.type "tuple"),none,(.seq #[(.int 0 1022)] 0),#[]⟩
noncomputable def y3s:Obj:=⟨(.type "code"),none,(.fields #[(.str "__init__" 1023),(.str "Context.__init__" 1024),(.str "/claim/cut.py" 1025),(.int 515 0),(.int 4 0),(.int 0 0),(.int 0 0),(.int 3 0),(.ref 599),(.bool true),(.int 181 0),(.ref 600),.none,(.ref 601),(.ref 602),(.ref 603),(.int 1030 0),(.int 515 0),(.str "/claim/cut.py" 1031)]),#[]⟩
noncomputable def y3r:Obj:=⟨(.type "function"),none,(.func (fnO (stI 80 0) "__init__" "Context.__init__" 3 (.ref 598) .none .none (.str "gateloom.store" 942) none (.ref 604) .none 0)),#[]⟩
noncomputable def y3q:Obj:=⟨(.type "function"),none,(.func (fnO (stI 80 1) "call" "Context.call" 3 .none .none .none (.str "gateloom.store" 942) none (.ref 611) .none 0)),#[]⟩
noncomputable def y3p:Obj:=⟨(.type "function"),none,(.func (fnO (stI 80 2) "next_random" "Context.next_random" 3 .none .none .none (.str "gateloom.store" 942) none (.ref 618) .none 0)),#[]⟩
noncomputable def y3o:Obj:=⟨(.type "function"),none,(.func (fnO (stI 80 3) "time_vec" "Context.time_vec" 3 .none .none .none (.str "gateloom.store" 942) none (.ref 625) .none 0)),#[]⟩
noncomputable def y3n (P:Params):Obj:=⟨(.type "dict"),none,(.dict #[(dE P "__module__" 1017 (.str "gateloom.store" 942)),(dE P "__firstlineno__" 1021 (.int 513 1020)),(dE P "__init__" 1032 (.ref 605)),(dE P "call" 1041 (.ref 612)),(dE P "next_random" 1049 (.ref 619)),(dE P "time_vec" 1057 (.ref 626)),(dE P "__static_attributes__" 1061 (.ref 627)),(dE P "__dict__" 1063 (.ref 630)),(dE P "__weakref__" 1065 (.ref 631)),(dE P "__doc__" 1066 .none)] 4),#[]⟩
noncomputable def y3m:Obj:=⟨(.type "type"),none,(.cls ⟨"Context",[(.type "object")],[(.ref 629),(.type "object")],628,"Context",true,[],[(.ref 677)],false,none,false⟩),#[none,none,(some (.str "Context" 1010)),(some (.str "Context" 1018)),(some (.builtin "object.__new__")),(some (.bool true))]⟩
noncomputable def y3l:Obj:=⟨(.type "tuple"),none,(.seq #[(.int 10000 1085)] 0),#[]⟩
noncomputable def y3k:Obj:=⟨(.type "code"),none,(.fields #[(.str "__init__" 1086),(.str "FunctionContext.__init__" 1087),(.str "/claim/cut.py" 1088),(.int 536 0),(.int 6 0),(.int 0 0),(.int 0 0),(.int 3 0),(.ref 642),(.bool true),(.int 181 0),(.ref 643),.none,(.ref 644),(.ref 645),(.ref 646),(.int 1095 0),(.int 536 0),(.str "/claim/cut.py" 1096)]),#[]⟩
noncomputable def y3j:Obj:=⟨(.type "function"),none,(.func (fnO (stI 83 0) "__init__" "FunctionContext.__init__" 3 (.ref 641) .none .none (.str "gateloom.funcs" 1069) none (.ref 647) .none 0)),#[]⟩
noncomputable def y3i:Obj:=⟨(.type "code"),none,(.fields #[(.str "call" 1098),(.str "FunctionContext.call" 1099),(.str "/claim/cut.py" 1100),(.int 543 0),(.int 3 0),(.int 0 0),(.int 0 0),(.int 3 0),(.ref 649),(.bool true),(.int 181 0),(.ref 650),.none,(.ref 651),(.ref 652),(.ref 653),(.int 1107 0),(.int 543 0),(.str "/claim/cut.py" 1108)]),#[]⟩
noncomputable def y3h:Obj:=⟨(.type "function"),none,(.func (fnO (stI 83 1) "call" "FunctionContext.call" 3 .none .none .none (.str "gateloom.funcs" 1069) none (.ref 654) .none 0)),#[]⟩
noncomputable def y3g:Obj:=⟨(.type "code"),none,(.fields #[(.str "new_frame" 1110),(.str "FunctionContext.new_frame" 1111),(.str "/claim/cut.py" 1112),(.int 558 0),(.int 3 0),(.int 0 0),(.int 0 0),(.int 3 0),(.ref 656),(.bool true),(.int 181 0),(.ref 657),.none,.none,.none,(.ref 658),(.int 1113 0),(.int 558 0),(.str "/claim/cut.py" 1114)]),#[]⟩
noncomputable def y3f:Obj:=⟨(.type "function"),none,(.func (fnO (stI 83 2) "new_frame" "FunctionContext.new_frame" 3 .none .none .none (.str "gateloom.funcs" 1069) none (.ref 659) .none 0)),#[]⟩
noncomputable def y3e:Obj:=⟨(.type "code"),none,(.fields #[(.str "burn" 1116),(.str "FunctionContext.burn" 1117),(.str "/claim/cut.py" 1118),(.int 570 0),(.int 1 0),(.int 0 0),(.int 0 0),(.int 3 0),(.ref 661),(.bool true),(.int 181 0),(.ref 662),.none,(.ref 663),(.ref 664),(.ref 665),(.int 1120 0),(.int 570 0),(.str "/claim/cut.py" 1121)]),#[]⟩
noncomputable def y3d:Obj:=⟨(.type "function"),none,(.func (fnO (stI 83 3) "burn" "FunctionContext.burn" 3 .none .none .none (.str "gateloom.funcs" 1069) none (.ref 666) .none 0)),#[]⟩
noncomputable def y3c:Obj:=⟨(.type "code"),none,(.fields #[(.str "is_true" 1123),(.str "FunctionContext.is_true" 1124),(.str "/claim/cut.py" 1125),(.int 575 0),(.int 2 0),(.int 0 0),(.int 0 0),(.int 3 0),(.ref 668),(.bool true),(.int 181 0),(.ref 669),.none,(.ref 670),(.ref 671),(.ref 672),(.int 1128 0),(.int 575 0),(.str "/claim/cut.py" 1129)]),#[]⟩
noncomputable def y3b:Obj:=⟨(.type "function"),none,(.func (fnO (stI 83 4) "is_true" "FunctionContext.is_true" 3 .none .none .none (.str "gateloom.funcs" 1069) none (.ref 673) .none 0)),#[]⟩
noncomputable def y3a (P:Params):Obj:=⟨(.type "dict"),none,(.dict #[(dE P "__module__" 1080 (.str "gateloom.funcs" 1069)),(dE P "__firstlineno__" 1084 (.int 534 1083)),(dE P "__init__" 1097 (.ref 648)),(dE P "call" 1109 (.ref 655)),(dE P "new_frame" 1115 (.ref 660)),(dE P "burn" 1122 (.ref 667)),(dE P "is_true" 1130 (.ref 674)),(dE P "__static_attributes__" 1136 (.ref 675)),(dE P "__doc__" 1137 .none)] 2),#[]⟩
noncomputable def y2z:Obj:=⟨(.type "type"),none,(.cls ⟨"FunctionContext",[(.ref 629)],[(.ref 677),(.ref 629),(.type "object")],676,"FunctionContext",true,[],[],false,none,false⟩),#[(some (.ref 634)),none,(some (.str "FunctionContext" 1073)),(some (.str "FunctionContext" 1081)),(some (.builtin "object.__new__")),(some (.bool true))]⟩
noncomputable def y2y:Obj:=⟨(.type "code"),none,(.fields #[(.str "run_block" 1140),(.str "run_block" 1141),(.str "/claim/cut.py" 1142),(.int 577 0),(.int 2 0),(.int 0 0),(.int 0 0),(.int 3 0),(.ref 680),(.bool true),(.int 181 0),(.ref 681),.none,(.ref 682),(.ref 683),(.ref 684),(.int 1147 0),(.int 577 0),(.str "/claim/cut.py" 1148)]),#[]⟩
noncomputable def y2x:Obj:=⟨(.type "function"),none,(.func (fnO (stA 84) "run_block" "run_block" 3 .none .none .none (.str "gateloom.funcs" 1069) none (.ref 685) .none 0)),#[]⟩
noncomputable def y2w:Obj:=⟨(.type "code"),none,(.fields #[(.str "run_set" 1150),(.str "run_set" 1151),(.str "/claim/cut.py" 1152),(.int 585 0),(.int 2 0),(.int 0 0),(.int 0 0),(.int 3 0),(.ref 687),(.bool true),(.int 181 0),(.ref 688),.none,(.ref 689),(.ref 690),(.ref 691),(.int 1157 0),(.int 585 0),(.str "/claim/cut.py" 1158)]),#[]⟩
noncomputable def y2v:Obj:=⟨(.type "function"),none,(.func (fnO (stA 85) "run_set" "run_set" 3 .none .none .none (.str "gateloom.funcs" 1069) none (.ref 692) .none 0)),#[]⟩
noncomputable def y2u:Obj:=⟨(.type "code"),none,(.fields #[(.str "run_case" 1160),(.str "run_case" 1161),(.str "/claim/cut.py" 1162),(.int 592 0),(.int 2 0),(.int 0 0),(.int 0 0),(.int 3 0),(.ref 694),(.bool true),(.int 181 0),(.ref 695),.none,(.ref 696),(.ref 697),(.ref 698),(.int 1170 0),(.int 592 0),(.str "/claim/cut.py" 1171)]),#[]⟩
noncomputable def y2t:Obj:=⟨(.type "function"),none,(.func (fnO (stA 86) "run_case" "run_case" 3 .none .none .none (.str "gateloom.funcs" 1069) none (.ref 699) .none 0)),#[]⟩
noncomputable def y2s:Obj:=⟨(.type "code"),none,(.fields #[(.str "run_while" 1173),(.str "run_while" 1174),(.str "/claim/cut.py" 1175),(.int 603 0),(.int 4 0),(.int 0 0),(.int 0 0),(.int 3 0),(.ref 701),(.bool true),(.int 181 0),(.ref 702),.none,(.ref 703),(.ref 704),(.ref 705),(.int 1181 0),(.int 603 0),(.str "/claim/cut.py" 1182)]),#[]⟩
noncomputable def y2r:Obj:=⟨(.type "function"),none,(.func (fnO (stA 87) "run_while" "run_while" 3 .none .none .none (.str "gateloom.funcs" 1069) none (.ref 706) .none 0)),#[]⟩
noncomputable def y2q:Obj:=⟨(.type "code"),none,(.fields #[(.str "run_repeat" 1184),(.str "run_repeat" 1185),(.str "/claim/cut.py" 1186),(.int 611 0),(.int 2 0),(.int 0 0),(.int 0 0),(.int 3 0),(.ref 708),(.bool true),(.int 181 0),(.ref 709),.none,(.ref 710),(.ref 711),(.ref 712),(.int 1191 0),(.int 611 0),(.str "/claim/cut.py" 1192)]),#[]⟩
noncomputable def y2p:Obj:=⟨(.type "function"),none,(.func (fnO (stA 88) "run_repeat" "run_repeat" 3 .none .none .none (.str "gateloom.funcs" 1069) none (.ref 713) .none 0)),#[]⟩
noncomputable def y2o:Obj:=⟨(.type "code"),none,(.fields #[(.str "run_for" 1194),(.str "run_for" 1195),(.str "/claim/cut.py" 1196),(.int 622 0),(.int 2 0),(.int 0 0),(.int 0 0),(.int 3 0),(.ref 715),(.bool true),(.int 181 0),(.ref 716),.none,(.ref 717),(.ref 718),(.ref 719),(.int 1199 0),(.int 622 0),(.str "/claim/cut.py" 1200)]),#[]⟩
noncomputable def y2n:Obj:=⟨(.type "function"),none,(.func (fnO (stA 89) "run_for" "run_for" 3 .none .none .none (.str "gateloom.funcs" 1069) none (.ref 720) .none 0)),#[]⟩
noncomputable def y2m:Obj:=⟨(.type "code"),none,(.fields #[(.str "run_statement" 1202),(.str "run_statement" 1203),(.str "/claim/cut.py" 1204),(.int 625 0),(.int 2 0),(.int 0 0),(.int 0 0),(.int 3 0),(.ref 722),(.bool true),(.int 181 0),(.ref 723),.none,(.ref 724),(.ref 725),(.ref 726),(.int 1208 0),(.int 625 0),(.str "/claim/cut.py" 1209)]),#[]⟩
noncomputable def y2l:Obj:=⟨(.type "function"),none,(.func (fnO (stA 90) "run_statement" "run_statement" 3 .none .none .none (.str "gateloom.funcs" 1069) none (.ref 727) .none 0)),#[]⟩
noncomputable def y2k:Obj:=⟨(.type "code"),none,(.fields #[(.str "__init__" 1225),(.str "Routine.__init__" 1226),(.str "/claim/cut.py" 1227),(.int 654 0),(.int 6 0),(.int 0 0),(.int 0 0),(.int 3 0),(.ref 736),(.bool true),(.int 181 0),(.ref 737),.none,(.ref 738),(.ref 739),(.ref 740),(.int 1234 0),(.int 654 0),(.str "/claim/cut.py" 1235)]),#[]⟩
noncomputable def y2j:Obj:=⟨(.type "function"),none,(.func (fnO (stI 92 0) "__init__" "Routine.__init__" 3 .none .none .none (.str "gateloom.design" 1211) none (.ref 741) .none 0)),#[]⟩
noncomputable def y2i:Obj:=⟨(.type "function"),none,(.func (fnO (stI 92 1) "inputs" "Routine.inputs" 3 .none .none .none (.str "gateloom.design" 1211) none (.ref 746) .none 0)),#[]⟩
noncomputable def y2h (P:Params):Obj:=⟨(.type "dict"),none,(.dict #[(dE P "__module__" 1220 (.str "gateloom.design" 1211)),(dE P "__firstlineno__" 1224 (.int 652 1223)),(dE P "__init__" 1236 (.ref 742)),(dE P "inputs" 1242 (.ref 747)),(dE P "__static_attributes__" 1257 (.ref 748)),(dE P "__dict__" 1259 (.ref 751)),(dE P "__weakref__" 1261 (.ref 752)),(dE P "__doc__" 1262 .none)] 4),#[]⟩
noncomputable def y2g:Obj:=⟨(.type "type"),none,(.cls ⟨"Routine",[(.type "object")],[(.ref 750),(.type "object")],749,"Routine",true,[],[],false,none,false⟩),#[none,none,(some (.str "Routine" 1213)),(some (.str "Routine" 1221)),(some (.builtin "object.__new__")),(some (.bool true))]⟩
noncomputable def y2f:Obj:=⟨(.type "code"),none,(.fields #[(.str "__init__" 1277),(.str "Design.__init__" 1278),(.str "/claim/cut.py" 1279),(.int 674 0),(.int 1 0),(.int 0 0),(.int 0 0),(.int 3 0),(.ref 762),(.bool true),(.int 181 0),(.ref 763),.none,(.ref 764),(.ref 765),(.ref 766),(.int 1281 0),(.int 674 0),(.str "/claim/cut.py" 1282)]),#[]⟩
noncomputable def y2e:Obj:=⟨(.type "function"),none,(.func (fnO (stI 93 0) "__init__" "Design.__init__" 3 .none .none .none (.str "gateloom.design" 1211) none (.ref 767) .none 0)),#[]⟩
noncomputable def y2d:Obj:=⟨(.type "function"),none,(.func (fnO (stI 93 1) "add_signal" "Design.add_signal" 3 .none .none .none (.str "gateloom.design" 1211) none (.ref 774) .none 0)),#[]⟩
noncomputable def y2c:Obj:=⟨(.type "function"),none,(.func (fnO (stI 93 2) "add_scope" "Design.add_scope" 3 .none .none .none (.str "gateloom.design" 1211) none (.ref 781) .none 0)),#[]⟩
noncomputable def y2b:Obj:=⟨(.type "code"),none,(.fields #[(.str "add_routine" 1306),(.str "Design.add_routine" 1307),(.str "/claim/cut.py" 1308),(.int 693 0),(.int 5 0),(.int 0 0),(.int 0 0),(.int 3 0),(.ref 783),(.bool true),(.int 181 0),(.ref 784),.none,(.ref 785),(.ref 786),(.ref 787),(.int 1315 0),(.int 693 0),(.str "/claim/cut.py" 1316)]),#[]⟩
noncomputable def y2a:Obj:=⟨(.type "function"),none,(.func (fnO (stI 93 3) "add_routine" "Design.add_routine" 3 .none .none .none (.str "gateloom.design" 1211) none (.ref 788) .none 0)),#[]⟩
noncomputable def y1z:Obj:=⟨(.type "function"),none,(.func (fnO (stI 93 4) "add_process" "Design.add_process" 3 .none .none .none (.str "gateloom.design" 1211) none (.ref 795) .none 0)),#[]⟩
noncomputable def y1y:Obj:=⟨(.type "function"),none,(.func (fnO (stI 93 5) "find" "Design.find" 3 .none .none .none (.str "gateloom.design" 1211) none (.ref 802) .none 0)),#[]⟩
noncomputable def y1x:Obj:=⟨(.type "code"),none,(.fields #[(.str "routine" 1337),(.str "Design.routine" 1338),(.str "/claim/cut.py" 1339),(.int 704 0),(.int 2 0),(.int 0 0),(.int 0 0),(.int 3 0),(.ref 804),(.bool true),(.int 181 0),(.ref 805),.none,(.ref 806),(.ref 807),(.ref 808),(.int 1343 0),(.int 704 0),(.str "/claim/cut.py" 1344)]),#[]⟩
noncomputable def y1w:Obj:=⟨(.type "function"),none,(.func (fnO (stI 93 6) "routine" "Design.routine" 3 .none .none .none (.str "gateloom.design" 1211) none (.ref 809) .none 0)),#[]⟩
noncomputable def y1v (P:Params):Obj:=⟨(.type "dict"),none,(.dict #[(dE P "__module__" 1272 (.str "gateloom.design" 1211)),(dE P "__firstlineno__" 1276 (.int 672 1275)),(dE P "__init__" 1283 (.ref 768)),(dE P "add_signal" 1297 (.ref 775)),(dE P "add_scope" 1305 (.ref 782)),(dE P "add_routine" 1317 (.ref 789)),(dE P "add_process" 1328 (.ref 796)),(dE P "find" 1336 (.ref 803)),(dE P "routine" 1345 (.ref 810)),(dE P "__static_attributes__" 1357 (.ref 811)),(dE P "__dict__" 1359 (.ref 814)),(dE P "__weakref__" 1361 (.ref 815)),(dE P "__doc__" 1362 .none)] 4),#[]⟩
noncomputable def y1u:Obj:=⟨(.type "type"),none,(.cls ⟨"Design",[(.type "object")],[(.ref 813),(.type "object")],812,"Design",true,[],[],false,none,false⟩),#[none,none,(some (.str "Design" 1265)),(some (.str "Design" 1273)),(some (.builtin "object.__new__")),(some (.bool true))]⟩
noncomputable def y1t:Obj:=⟨(.type "code"),none,(.fields #[(.str "_law_row" 1367),(.str "_law_row" 1368),(.str "/claim/cut.py" 1369),(.int 712 0),(.int 1 0),(.int 0 0),(.int 0 0),(.int 3 0),(.ref 818),(.bool true),(.int 181 0),(.ref 819),.none,(.ref 820),(.ref 821),(.ref 822),(.int 1375 0),(.int 712 0),(.str "/claim/cut.py" 1376)]),#[]⟩
noncomputable def y1s:Obj:=⟨(.type "function"),none,(.func (fnO (stA 95) "_law_row" "_law_row" 3 .none .none .none (.str "law_nn0340_01" 1365) none (.ref 823) .none 0)),#[]⟩
noncomputable def y1r:Obj:=⟨(.type "code"),none,(.fields #[(.str "_law_next" 1378),(.str "_law_next" 1379),(.str "/claim/cut.py" 1380),(.int 725 0),(.int 1 0),(.int 0 0),(.int 0 0),(.int 3 0),(.ref 825),(.bool true),(.int 181 0),(.ref 826),.none,(.ref 827),(.ref 828),(.ref 829),(.int 1382 0),(.int 725 0),(.str "/claim/cut.py" 1383)]),#[]⟩
noncomputable def y1q:Obj:=⟨(.type "function"),none,(.func (fnO (stA 96) "_law_next" "_law_next" 3 .none .none .none (.str "law_nn0340_01" 1365) none (.ref 830) .none 0)),#[]⟩
noncomputable def y1p:Obj:=⟨(.type "code"),none,(.fields #[(.str "_law_bits" 1385),(.str "_law_bits" 1386),(.str "/claim/cut.py" 1387),(.int 727 0),(.int 2 0),(.int 0 0),(.int 0 0),(.int 3 0),(.ref 832),(.bool true),(.int 181 0),(.ref 833),.none,(.ref 834),(.ref 835),(.ref 836),(.int 1394 0),(.int 727 0),(.str "/claim/cut.py" 1395)]),#[]⟩
noncomputable def y1o:Obj:=⟨(.type "function"),none,(.func (fnO (stA 97) "_law_bits" "_law_bits" 3 .none .none .none (.str "law_nn0340_01" 1365) none (.ref 837) .none 0)),#[]⟩
noncomputable def y1n:Obj:=⟨(.type "code"),none,(.fields #[(.str "_law_made" 1397),(.str "_law_made" 1398),(.str "/claim/cut.py" 1399),(.int 735 0),(.int 1 0),(.int 0 0),(.int 0 0),(.int 3 0),(.ref 839),(.bool true),(.int 181 0),(.ref 840),.none,(.ref 841),(.ref 842),(.ref 843),(.int 1404 0),(.int 735 0),(.str "/claim/cut.py" 1405)]),#[]⟩
noncomputable def y1m:Obj:=⟨(.type "function"),none,(.func (fnO (stA 98) "_law_made" "_law_made" 3 .none .none .none (.str "law_nn0340_01" 1365) none (.ref 844) .none 0)),#[]⟩
noncomputable def y1l:Obj:=⟨(.type "code"),none,(.fields #[(.str "_law_expr" 1407),(.str "_law_expr" 1408),(.str "/claim/cut.py" 1409),(.int 742 0),(.int 2 0),(.int 0 0),(.int 0 0),(.int 3 0),(.ref 846),(.bool true),(.int 181 0),(.ref 847),.none,(.ref 848),(.ref 849),(.ref 850),(.int 1415 0),(.int 742 0),(.str "/claim/cut.py" 1416)]),#[]⟩
noncomputable def y1k:Obj:=⟨(.type "function"),none,(.func (fnO (stA 99) "_law_expr" "_law_expr" 3 .none .none .none (.str "law_nn0340_01" 1365) none (.ref 851) .none 0)),#[]⟩
noncomputable def y1j:Obj:=⟨(.type "code"),none,(.fields #[(.str "_law_test" 1418),(.str "_law_test" 1419),(.str "/claim/cut.py" 1420),(.int 753 0),(.int 1 0),(.int 0 0),(.int 0 0),(.int 3 0),(.ref 853),(.bool true),(.int 181 0),(.ref 854),.none,(.ref 855),(.ref 856),(.ref 857),(.int 1423 0),(.int 753 0),(.str "/claim/cut.py" 1424)]),#[]⟩
noncomputable def y1i:Obj:=⟨(.type "function"),none,(.func (fnO (stA 100) "_law_test" "_law_test" 3 .none .none .none (.str "law_nn0340_01" 1365) none (.ref 858) .none 0)),#[]⟩
noncomputable def y1h:Obj:=⟨(.type "code"),none,(.fields #[(.str "_law_set" 1426),(.str "_law_set" 1427),(.str "/claim/cut.py" 1428),(.int 756 0),(.int 2 0),(.int 0 0),(.int 0 0),(.int 3 0),(.ref 860),(.bool true),(.int 181 0),(.ref 861),.none,(.ref 862),(.ref 863),(.ref 864),(.int 1434 0),(.int 756 0),(.str "/claim/cut.py" 1435)]),#[]⟩
noncomputable def y1g:Obj:=⟨(.type "function"),none,(.func (fnO (stA 101) "_law_set" "_law_set" 3 .none .none .none (.str "law_nn0340_01" 1365) none (.ref 865) .none 0)),#[]⟩
noncomputable def y1f:Obj:=⟨(.type "code"),none,(.fields #[(.str "_law_statement" 1437),(.str "_law_statement" 1438),(.str "/claim/cut.py" 1439),(.int 763 0),(.int 2 0),(.int 0 0),(.int 0 0),(.int 3 0),(.ref 867),(.bool true),(.int 181 0),(.ref 868),.none,(.ref 869),(.ref 870),(.ref 871),(.int 1446 0),(.int 763 0),(.str "/claim/cut.py" 1447)]),#[]⟩
noncomputable def y1e:Obj:=⟨(.type "function"),none,(.func (fnO (stA 102) "_law_statement" "_law_statement" 3 .none .none .none (.str "law_nn0340_01" 1365) none (.ref 872) .none 0)),#[]⟩
noncomputable def y1d:Obj:=⟨(.type "code"),none,(.fields #[(.str "_law_codes" 1449),(.str "_law_codes" 1450),(.str "/claim/cut.py" 1451),(.int 783 0),(.int 1 0),(.int 0 0),(.int 0 0),(.int 3 0),(.ref 874),(.bool true),(.int 181 0),(.ref 875),.none,.none,.none,(.ref 876),(.int 1452 0),(.int 783 0),(.str "/claim/cut.py" 1453)]),#[]⟩
noncomputable def y1c:Obj:=⟨(.type "function"),none,(.func (fnO (stA 103) "_law_codes" "_law_codes" 3 .none .none .none (.str "law_nn0340_01" 1365) none (.ref 877) .none 0)),#[]⟩
noncomputable def y1b:Obj:=⟨(.type "code"),none,(.fields #[(.str "_law_figure" 1455),(.str "_law_figure" 1456),(.str "/claim/cut.py" 1457),(.int 785 0),(.int 1 0),(.int 0 0),(.int 0 0),(.int 3 0),(.ref 879),(.bool true),(.int 181 0),(.ref 880),.none,(.ref 881),(.ref 882),(.ref 883),(.int 1461 0),(.int 785 0),(.str "/claim/cut.py" 1462)]),#[]⟩
noncomputable def y1a:Obj:=⟨(.type "function"),none,(.func (fnO (stA 104) "_law_figure" "_law_figure" 3 .none .none .none (.str "law_nn0340_01" 1365) none (.ref 884) .none 0)),#[]⟩
noncomputable def y0z:Obj:=⟨(.type "code"),none,(.fields #[(.str "_law_same" 1464),(.str "_law_same" 1465),(.str "/claim/cut.py" 1466),(.int 792 0),(.int 2 0),(.int 0 0),(.int 0 0),(.int 3 0),(.ref 886),(.bool true),(.int 181 0),(.ref 887),.none,(.ref 888),(.ref 889),(.ref 890),(.int 1471 0),(.int 792 0),(.str "/claim/cut.py" 1472)]),#[]⟩
noncomputable def y0y:Obj:=⟨(.type "function"),none,(.func (fnO (stA 105) "_law_same" "_law_same" 3 .none .none .none (.str "law_nn0340_01" 1365) none (.ref 891) .none 0)),#[]⟩
noncomputable def y0x:Obj:=⟨(.type "code"),none,(.fields #[(.str "_law_value" 1474),(.str "_law_value" 1475),(.str "/claim/cut.py" 1476),(.int 797 0),(.int 2 0),(.int 0 0),(.int 0 0),(.int 3 0),(.ref 893),(.bool true),(.int 181 0),(.ref 894),.none,.none,.none,(.ref 895),(.int 1477 0),(.int 797 0),(.str "/claim/cut.py" 1478)]),#[]⟩
noncomputable def y0w:Obj:=⟨(.type "function"),none,(.func (fnO (stA 106) "_law_value" "_law_value" 3 .none .none .none (.str "law_nn0340_01" 1365) none (.ref 896) .none 0)),#[]⟩
noncomputable def y0v:Obj:=⟨(.type "code"),none,(.fields #[(.str "_law_burnt" 1480),(.str "_law_burnt" 1481),(.str "/claim/cut.py" 1482),(.int 824 0),(.int 1 0),(.int 0 0),(.int 0 0),(.int 3 0),(.ref 898),(.bool true),(.int 181 0),(.ref 899),.none,(.ref 900),(.ref 901),(.ref 902),(.int 1484 0),(.int 824 0),(.str "/claim/cut.py" 1485)]),#[]⟩
noncomputable def y0u:Obj:=⟨(.type "function"),none,(.func (fnO (stA 107) "_law_burnt" "_law_burnt" 3 .none .none .none (.str "law_nn0340_01" 1365) none (.ref 903) .none 0)),#[]⟩
noncomputable def y0t:Obj:=⟨(.type "code"),none,(.fields #[(.str "_law_meets" 1487),(.str "_law_meets" 1488),(.str "/claim/cut.py" 1489),(.int 829 0),(.int 3 0),(.int 0 0),(.int 0 0),(.int 3 0),(.ref 905),(.bool true),(.int 181 0),(.ref 906),.none,(.ref 907),(.ref 908),(.ref 909),(.int 1496 0),(.int 829 0),(.str "/claim/cut.py" 1497)]),#[]⟩
noncomputable def y0s:Obj:=⟨(.type "function"),none,(.func (fnO (stA 108) "_law_meets" "_law_meets" 3 .none .none .none (.str "law_nn0340_01" 1365) none (.ref 910) .none 0)),#[]⟩
noncomputable def y0r:Obj:=⟨(.type "code"),none,(.fields #[(.str "_law_loop" 1499),(.str "_law_loop" 1500),(.str "/claim/cut.py" 1501),(.int 835 0),(.int 5 0),(.int 0 0),(.int 0 0),(.int 3 0),(.ref 912),(.bool true),(.int 181 0),(.ref 913),.none,(.ref 914),(.ref 915),(.ref 916),(.int 1509 0),(.int 835 0),(.str "/claim/cut.py" 1510)]),#[]⟩
noncomputable def y0q:Obj:=⟨(.type "function"),none,(.func (fnO (stA 109) "_law_loop" "_law_loop" 3 .none .none .none (.str "law_nn0340_01" 1365) none (.ref 917) .none 0)),#[]⟩
noncomputable def y0p:Obj:=⟨(.type "code"),none,(.fields #[(.str "_law_run" 1512),(.str "_law_run" 1513),(.str "/claim/cut.py" 1514),(.int 846 0),(.int 3 0),(.int 0 0),(.int 0 0),(.int 3 0),(.ref 919),(.bool true),(.int 181 0),(.ref 920),.none,.none,.none,(.ref 921),(.int 1515 0),(.int 846 0),(.str "/claim/cut.py" 1516)]),#[]⟩
noncomputable def y0o:Obj:=⟨(.type "function"),none,(.func (fnO (stA 110) "_law_run" "_law_run" 3 .none .none .none (.str "law_nn0340_01" 1365) none (.ref 922) .none 0)),#[]⟩
noncomputable def y0n:Obj:=⟨(.type "code"),none,(.fields #[(.str "_law_called" 1518),(.str "_law_called" 1519),(.str "/claim/cut.py" 1520),(.int 894 0),(.int 3 0),(.int 0 0),(.int 0 0),(.int 3 0),(.ref 924),(.bool true),(.int 181 0),(.ref 925),.none,(.ref 926),(.ref 927),(.ref 928),(.int 1524 0),(.int 894 0),(.str "/claim/cut.py" 1525)]),#[]⟩
noncomputable def y0m:Obj:=⟨(.type "function"),none,(.func (fnO (stA 111) "_law_called" "_law_called" 3 .none .none .none (.str "law_nn0340_01" 1365) none (.ref 929) .none 0)),#[]⟩
noncomputable def y0l:Obj:=⟨(.type "code"),none,(.fields #[(.str "_law_entered" 1527),(.str "_law_entered" 1528),(.str "/claim/cut.py" 1529),(.int 896 0),(.int 3 0),(.int 0 0),(.int 0 0),(.int 3 0),(.ref 931),(.bool true),(.int 181 0),(.ref 932),.none,(.ref 933),(.ref 934),(.ref 935),(.int 1534 0),(.int 896 0),(.str "/claim/cut.py" 1535)]),#[]⟩
noncomputable def y0k:Obj:=⟨(.type "function"),none,(.func (fnO (stA 112) "_law_entered" "_law_entered" 3 .none .none .none (.str "law_nn0340_01" 1365) none (.ref 936) .none 0)),#[]⟩
noncomputable def y0j:Obj:=⟨(.type "code"),none,(.fields #[(.str "law" 1537),(.str "law" 1538),(.str "/claim/cut.py" 1539),(.int 900 0),(.int 1 0),(.int 0 0),(.int 0 0),(.int 3 0),(.ref 938),(.bool true),(.int 181 0),(.ref 939),.none,.none,.none,(.ref 940),(.int 1540 0),(.int 900 0),(.str "/claim/cut.py" 1541)]),#[]⟩
noncomputable def y0i:Obj:=⟨(.type "function"),none,(.func (fnO (stA 113) "law" "law" 3 .none .none .none (.str "law_nn0340_01" 1365) none (.ref 941) .none 0)),#[]⟩
noncomputable def KK (P:Params):Frag:=[(2,ko2 P),(3,ko3 P),(21,ko21),(29,ko29),(35,ko35),(36,ko36),(38,ko38 P),(39,ko39),(51,ko51 P),(52,ko52),(63,ko63 P),(64,ko64),(72,ko72),(73,ko73),(74,ko74),(80,ko80),(81,ko81),(88,ko88),(94,ko94),(95,ko95),(102,y7v),(108,y7u),(109,y7t),(115,y7s),(116,y7r),(122,y7q),(123,y7p),(129,y7o),(130,y7n),(136,y7m),(137,y7l),(143,y7k),(144,y7j),(151,y7i),(157,y7h),(158,y7g),(164,y7f),(165,y7e),(171,y7d),(172,y7c),(178,y7b),(179,y7a),(185,y6z),(186,y6y),(193,y6x),(200,y6w),(207,y6v),(214,y6u),(221,y6t),(228,y6s),(235,y6r),(242,y6q),(249,y6p),(256,y6o),(262,y6n),(263,y6m),(269,y6l),(270,y6k),(277,y6j),(284,y6i),(291,y6h),(297,y6g),(298,y6f),(304,y6e),(305,y6d),(311,y6c),(312,y6b),(319,y6a),(325,y5z),(326,y5y),(333,y5x),(340,y5w),(347,y5v),(354,y5u),(361,y5t),(368,y5s),(375,y5r),(382,y5q),(389,y5p),(396,y5o),(402,y5n),(403,y5m),(409,y5l),(410,y5k),(417,y5j),(424,y5i),(430,y5h),(431,y5g),(437,y5f),(438,y5e),(445,y5d),(451,y5c),(452,y5b),(458,y5a),(459,y4z),(465,y4y),(466,y4x),(472,y4w),(473,y4v),(479,y4u),(480,y4t),(487,y4s),(494,y4r),(500,y4q),(501,y4p),(508,y4o),(515,y4n),(519,y4m),(520,y4l),(526,y4k),(527,y4j),(533,y4i),(534,y4h),(540,y4g),(541,y4f),(547,y4e),(548,y4d),(561,y4c),(562,y4b),(568,y4a),(569,y3z),(576,y3y),(582,y3x),(583,y3w),(585,y3v P),(586,y3u),(598,y3t),(604,y3s),(605,y3r),(612,y3q),(619,y3p),(626,y3o),(628,y3n P),(629,y3m),(641,y3l),(647,y3k),(648,y3j),(654,y3i),(655,y3h),(659,y3g),(660,y3f),(666,y3e),(667,y3d),(673,y3c),(674,y3b),(676,y3a P),(677,y2z),(685,y2y),(686,y2x),(692,y2w),(693,y2v),(699,y2u),(700,y2t),(706,y2s),(707,y2r),(713,y2q),(714,y2p),(720,y2o),(721,y2n),(727,y2m),(728,y2l),(741,y2k),(742,y2j),(747,y2i),(749,y2h P),(750,y2g),(767,y2f),(768,y2e),(775,y2d),(782,y2c),(788,y2b),(789,y2a),(796,y1z),(803,y1y),(809,y1x),(810,y1w),(812,y1v P),(813,y1u),(823,y1t),(824,y1s),(830,y1r),(831,y1q),(837,y1p),(838,y1o),(844,y1n),(845,y1m),(851,y1l),(852,y1k),(858,y1j),(859,y1i),(865,y1h),(866,y1g),(872,y1f),(873,y1e),(877,y1d),(878,y1c),(884,y1b),(885,y1a),(891,y0z),(892,y0y),(896,y0x),(897,y0w),(903,y0v),(904,y0u),(910,y0t),(911,y0s),(917,y0r),(918,y0q),(922,y0p),(923,y0o),(929,y0n),(930,y0m),(936,y0l),(937,y0k),(941,y0j),(942,y0i)]
noncomputable def KKas:List Addr:=[2,3,21,29,35,36,38,39,51,52,63,64,72,73,74,80,81,88,94,95,102,108,109,115,116,122,123,129,130,136,137,143,144,151,157,158,164,165,171,172,178,179,185,186,193,200,207,214,221,228,235,242,249,256,262,263,269,270,277,284,291,297,298,304,305,311,312,319,325,326,333,340,347,354,361,368,375,382,389,396,402,403,409,410,417,424,430,431,437,438,445,451,452,458,459,465,466,472,473,479,480,487,494,500,501,508,515,519,520,526,527,533,534,540,541,547,548,561,562,568,569,576,582,583,585,586,598,604,605,612,619,626,628,629,641,647,648,654,655,659,660,666,667,673,674,676,677,685,686,692,693,699,700,706,707,713,714,720,721,727,728,741,742,747,749,750,767,768,775,782,788,789,796,803,809,810,812,813,823,824,830,831,837,838,844,845,851,852,858,859,865,866,872,873,877,878,884,885,891,892,896,897,903,904,910,911,917,918,922,923,929,930,936,937,941,942]
theorem x4a (P:Params):KKas=(KK P).map (·.1):=by kernel_rfl
noncomputable def qv:Program:=view PG [y0h]
noncomputable def loose:List Str:=PG.boundNames.filter fun x=>x !=("law":Str)
noncomputable def T00 (P:Params):BT:=x4m (boot_heap P).objs.toList
theorem x2o:∀w:World,(fencedOpening treeTable PG w 6000).map (fun s=>(s.heap,s.gens,s.drawn,s.toks))=some (boot_heap w.params,#[],boot_drawn,boot_toks):=
 boot_open (by kernel_rfl) (by kernel_rfl) (fun s=>by kernel_rfl)
theorem x2q (P:Params):boot_heap P=absHeap (T00 P) 11 {}:=by kernel_rfl
theorem x2m (w:World):((boot_heap w.params).isNs mainGlobals,(boot_heap w.params).objs.size,(boot_heap w.params).nsMap mainGlobals "__annotations__")=(true,11,some (.ref 6)):=by kernel_rfl
noncomputable def Xt (s:Shared):Bool:=xlAt qv [] s && recOk (RowW.records RW.row.toRowW) s
noncomputable abbrev hk:Hook:=kHook KK KKas x4a
theorem x2p:LeftO PG qv loose Xt hk.obs hk.val 6000 true:=
 x1y x2o x2q x2m fun w os=>by kernel_rfl
end Mine
end
section
open PySem PySem.W PyProof.Rows
set_option maxRecDepth 100000
set_option maxHeartbeats 400000
namespace Mine
noncomputable def u5o:DefRec:=match defOf qv RW.row.name with|some (d,_)=>d|none=>⟨"",⟨[],[],none,[],[],none,[]⟩,[],default,⟨0,0,0,0⟩⟩
theorem j1:defOf qv RW.row.toRowW.name=some (u5o,[]):=by kernel_rfl
theorem j2:RW.row.toRowW.prog.theDef RW.row.toRowW.name=some (u5o.params,u5o.body,u5o.scope):=by kernel_rfl
theorem j3:kwWritten? u5o.params.kwonlyargs u5o.params.kw_defaults=some []:=by kernel_rfl
theorem j4:(chainsOk qv && opensWell RW.row.toRowW.prog && (frees RW.row.toRowW && RW.row.within.isEmpty))=true:=by kernel_rfl
theorem j5:RW.row.toRowW.prog.bare:=⟨rfl,rfl,rfl,rfl,rfl,by decide+kernel⟩
theorem j6:RW.row.toRowW.promised:=⟨[.list []],by kernel_rfl,by kernel_rfl⟩
theorem x2n:RW.wellSaid=true:=(congrFun PySem.W.Fast.te9446332074065402090 RW).trans (by kernel_rfl)
end Mine
end
section
set_option genCtorIdx false
open PySem PySem.W PyProof.Rows
namespace Mine
theorem or3 {a b c G:Prop} (h:a∨b∨c) (f:a→G) (g:b→G) (k:c→G):G:=h.elim f fun h=>h.elim g k
theorem or4 {a b c d G:Prop} (h:a∨b∨c∨d) (f:a→G) (g:b→G) (k:c→G) (l:d→G):G:=h.elim f fun h=>or3 h g k l
theorem al3 {p0 p1 p2 G:Prop} (h:(p0∧p1)∧p2) (k:p0→p1→p2→G):G:=k h.1.1 h.1.2 h.2
theorem al4 {p0 p1 p2 p3 G:Prop} (h:((p0∧p1)∧p2)∧p3) (k:p0→p1→p2→p3→G):G:=k h.1.1.1 h.1.1.2 h.1.2 h.2
theorem al5 {p0 p1 p2 p3 p4 G:Prop} (h:(((p0∧p1)∧p2)∧p3)∧p4) (k:p0→p1→p2→p3→p4→G):G:=k h.1.1.1.1 h.1.1.1.2 h.1.1.2 h.1.2 h.2
theorem al6 {p0 p1 p2 p3 p4 p5 G:Prop} (h:((((p0∧p1)∧p2)∧p3)∧p4)∧p5) (k:p0→p1→p2→p3→p4→p5→G):G:=k h.1.1.1.1.1 h.1.1.1.1.2 h.1.1.1.2 h.1.1.2 h.1.2 h.2
theorem al7 {p0 p1 p2 p3 p4 p5 p6 G:Prop} (h:(((((p0∧p1)∧p2)∧p3)∧p4)∧p5)∧p6) (k:p0→p1→p2→p3→p4→p5→p6→G):G:=k h.1.1.1.1.1.1 h.1.1.1.1.1.2 h.1.1.1.1.2 h.1.1.1.2 h.1.1.2 h.1.2 h.2
theorem al10 {p0 p1 p2 p3 p4 p5 p6 p7 p8 p9 G:Prop} (h:((((((((p0∧p1)∧p2)∧p3)∧p4)∧p5)∧p6)∧p7)∧p8)∧p9) (k:p0→p1→p2→p3→p4→p5→p6→p7→p8→p9→G):G:=k h.1.1.1.1.1.1.1.1.1 h.1.1.1.1.1.1.1.1.2 h.1.1.1.1.1.1.1.2 h.1.1.1.1.1.1.2 h.1.1.1.1.1.2 h.1.1.1.1.2 h.1.1.1.2 h.1.1.2 h.1.2 h.2
theorem u0a {P0 P1:Prop} {G:Prop} (h:P0∧P1) (k:P0→P1→G):G:=by
 obtain⟨p0,p1⟩:=h
 exact k p0 p1
theorem u2k {P0 P1 P2:Prop} {G:Prop} (h:P0∧P1∧P2) (k:P0→P1→P2→G):G:=by
 obtain⟨p0,p1,p2⟩:=h
 exact k p0 p1 p2
theorem u0i {A0:Type} {P0:A0→Prop} {G:Prop} (h:∃a0,P0 a0) (k:∀a0,P0 a0→G):G:=by
 obtain⟨a0,p0⟩:=h
 exact k a0 p0
theorem u0d {A0:Type} {P0 P1:A0→Prop} {G:Prop} (h:∃a0,P0 a0∧P1 a0) (k:∀a0,P0 a0→P1 a0→G):G:=by
 obtain⟨a0,p0,p1⟩:=h
 exact k a0 p0 p1
theorem u1e {A0:Type} {P0 P1 P2:A0→Prop} {G:Prop} (h:∃a0,P0 a0∧P1 a0∧P2 a0) (k:∀a0,P0 a0→P1 a0→P2 a0→G):G:=by
 obtain⟨a0,p0,p1,p2⟩:=h
 exact k a0 p0 p1 p2
theorem u4i {A0:Type} {P0 P1 P2 P3:A0→Prop} {G:Prop} (h:∃a0,P0 a0∧P1 a0∧P2 a0∧P3 a0) (k:∀a0,P0 a0→P1 a0→P2 a0→P3 a0→G):G:=by
 obtain⟨a0,p0,p1,p2,p3⟩:=h
 exact k a0 p0 p1 p2 p3
theorem w0z {A0:Type} {P0 P1 P2 P3 P4:A0→Prop} {G:Prop} (h:∃a0,P0 a0∧P1 a0∧P2 a0∧P3 a0∧P4 a0) (k:∀a0,P0 a0→P1 a0→P2 a0→P3 a0→P4 a0→G):G:=by
 obtain⟨a0,p0,p1,p2,p3,p4⟩:=h
 exact k a0 p0 p1 p2 p3 p4
theorem u1j {A0 A1:Type} {P0:A0→A1→Prop} {G:Prop} (h:∃a0 a1,P0 a0 a1) (k:∀a0 a1,P0 a0 a1→G):G:=by
 obtain⟨a0,a1,p0⟩:=h
 exact k a0 a1 p0
theorem u1m {A0 A1:Type} {P0 P1:A0→A1→Prop} {G:Prop} (h:∃a0 a1,P0 a0 a1∧P1 a0 a1) (k:∀a0 a1,P0 a0 a1→P1 a0 a1→G):G:=by
 obtain⟨a0,a1,p0,p1⟩:=h
 exact k a0 a1 p0 p1
theorem u1c {A0 A1:Type} {P0 P1 P2:A0→A1→Prop} {G:Prop} (h:∃a0 a1,P0 a0 a1∧P1 a0 a1∧P2 a0 a1) (k:∀a0 a1,P0 a0 a1→P1 a0 a1→P2 a0 a1→G):G:=by
 obtain⟨a0,a1,p0,p1,p2⟩:=h
 exact k a0 a1 p0 p1 p2
theorem x2x {A0 A1:Type} {P0 P1 P2 P3:A0→A1→Prop} {G:Prop} (h:∃a0 a1,P0 a0 a1∧P1 a0 a1∧P2 a0 a1∧P3 a0 a1) (k:∀a0 a1,P0 a0 a1→P1 a0 a1→P2 a0 a1→P3 a0 a1→G):G:=by
 obtain⟨a0,a1,p0,p1,p2,p3⟩:=h
 exact k a0 a1 p0 p1 p2 p3
theorem u2e {A0 A1 A2:Type} {P0:A0→A1→A2→Prop} {G:Prop} (h:∃a0 a1 a2,P0 a0 a1 a2) (k:∀a0 a1 a2,P0 a0 a1 a2→G):G:=by
 obtain⟨a0,a1,a2,p0⟩:=h
 exact k a0 a1 a2 p0
theorem u7o {A0 A1 A2:Type} {P0 P1:A0→A1→A2→Prop} {G:Prop} (h:∃a0 a1 a2,P0 a0 a1 a2∧P1 a0 a1 a2) (k:∀a0 a1 a2,P0 a0 a1 a2→P1 a0 a1 a2→G):G:=by
 obtain⟨a0,a1,a2,p0,p1⟩:=h
 exact k a0 a1 a2 p0 p1
theorem u1b {A0 A1 A2:Type} {P0 P1 P2:A0→A1→A2→Prop} {G:Prop} (h:∃a0 a1 a2,P0 a0 a1 a2∧P1 a0 a1 a2∧P2 a0 a1 a2) (k:∀a0 a1 a2,P0 a0 a1 a2→P1 a0 a1 a2→P2 a0 a1 a2→G):G:=by
 obtain⟨a0,a1,a2,p0,p1,p2⟩:=h
 exact k a0 a1 a2 p0 p1 p2
theorem u7n {A0 A1 A2:Type} {P0 P1 P2 P3:A0→A1→A2→Prop} {G:Prop} (h:∃a0 a1 a2,P0 a0 a1 a2∧P1 a0 a1 a2∧P2 a0 a1 a2∧P3 a0 a1 a2) (k:∀a0 a1 a2,P0 a0 a1 a2→P1 a0 a1 a2→P2 a0 a1 a2→P3 a0 a1 a2→G):G:=by
 obtain⟨a0,a1,a2,p0,p1,p2,p3⟩:=h
 exact k a0 a1 a2 p0 p1 p2 p3
theorem v2p {A0 A1 A2:Type} {P0 P1 P2 P3 P4:A0→A1→A2→Prop} {G:Prop} (h:∃a0 a1 a2,P0 a0 a1 a2∧P1 a0 a1 a2∧P2 a0 a1 a2∧P3 a0 a1 a2∧P4 a0 a1 a2) (k:∀a0 a1 a2,P0 a0 a1 a2→P1 a0 a1 a2→P2 a0 a1 a2→P3 a0 a1 a2→P4 a0 a1 a2→G):G:=by
 obtain⟨a0,a1,a2,p0,p1,p2,p3,p4⟩:=h
 exact k a0 a1 a2 p0 p1 p2 p3 p4
theorem w5k {A0 A1 A2:Type} {P0 P1 P2 P3 P4 P5:A0→A1→A2→Prop} {G:Prop} (h:∃a0 a1 a2,P0 a0 a1 a2∧P1 a0 a1 a2∧P2 a0 a1 a2∧P3 a0 a1 a2∧P4 a0 a1 a2∧P5 a0 a1 a2) (k:∀a0 a1 a2,P0 a0 a1 a2→P1 a0 a1 a2→P2 a0 a1 a2→P3 a0 a1 a2→P4 a0 a1 a2→P5 a0 a1 a2→G):G:=by
 obtain⟨a0,a1,a2,p0,p1,p2,p3,p4,p5⟩:=h
 exact k a0 a1 a2 p0 p1 p2 p3 p4 p5
theorem u7m {A0 A1 A2:Type} {P0 P1 P2 P3 P4 P5 P6:A0→A1→A2→Prop} {G:Prop} (h:∃a0 a1 a2,P0 a0 a1 a2∧P1 a0 a1 a2∧P2 a0 a1 a2∧P3 a0 a1 a2∧P4 a0 a1 a2∧P5 a0 a1 a2∧P6 a0 a1 a2) (k:∀a0 a1 a2,P0 a0 a1 a2→P1 a0 a1 a2→P2 a0 a1 a2→P3 a0 a1 a2→P4 a0 a1 a2→P5 a0 a1 a2→P6 a0 a1 a2→G):G:=by
 obtain⟨a0,a1,a2,p0,p1,p2,p3,p4,p5,p6⟩:=h
 exact k a0 a1 a2 p0 p1 p2 p3 p4 p5 p6
theorem v4t {A0 A1 A2 A3:Type} {P0:A0→A1→A2→A3→Prop} {G:Prop} (h:∃a0 a1 a2 a3,P0 a0 a1 a2 a3) (k:∀a0 a1 a2 a3,P0 a0 a1 a2 a3→G):G:=by
 obtain⟨a0,a1,a2,a3,p0⟩:=h
 exact k a0 a1 a2 a3 p0
theorem x2w {A0 A1 A2 A3:Type} {P0 P1:A0→A1→A2→A3→Prop} {G:Prop} (h:∃a0 a1 a2 a3,P0 a0 a1 a2 a3∧P1 a0 a1 a2 a3) (k:∀a0 a1 a2 a3,P0 a0 a1 a2 a3→P1 a0 a1 a2 a3→G):G:=by
 obtain⟨a0,a1,a2,a3,p0,p1⟩:=h
 exact k a0 a1 a2 a3 p0 p1
theorem v6x {A0 A1 A2 A3:Type} {P0 P1 P2:A0→A1→A2→A3→Prop} {G:Prop} (h:∃a0 a1 a2 a3,P0 a0 a1 a2 a3∧P1 a0 a1 a2 a3∧P2 a0 a1 a2 a3) (k:∀a0 a1 a2 a3,P0 a0 a1 a2 a3→P1 a0 a1 a2 a3→P2 a0 a1 a2 a3→G):G:=by
 obtain⟨a0,a1,a2,a3,p0,p1,p2⟩:=h
 exact k a0 a1 a2 a3 p0 p1 p2
theorem x8e {A0 A1 A2 A3:Type} {P0 P1 P2 P3:A0→A1→A2→A3→Prop} {G:Prop} (h:∃a0 a1 a2 a3,P0 a0 a1 a2 a3∧P1 a0 a1 a2 a3∧P2 a0 a1 a2 a3∧P3 a0 a1 a2 a3) (k:∀a0 a1 a2 a3,P0 a0 a1 a2 a3→P1 a0 a1 a2 a3→P2 a0 a1 a2 a3→P3 a0 a1 a2 a3→G):G:=by
 obtain⟨a0,a1,a2,a3,p0,p1,p2,p3⟩:=h
 exact k a0 a1 a2 a3 p0 p1 p2 p3
theorem x8d {A0 A1 A2 A3:Type} {P0 P1 P2 P3 P4:A0→A1→A2→A3→Prop} {G:Prop} (h:∃a0 a1 a2 a3,P0 a0 a1 a2 a3∧P1 a0 a1 a2 a3∧P2 a0 a1 a2 a3∧P3 a0 a1 a2 a3∧P4 a0 a1 a2 a3) (k:∀a0 a1 a2 a3,P0 a0 a1 a2 a3→P1 a0 a1 a2 a3→P2 a0 a1 a2 a3→P3 a0 a1 a2 a3→P4 a0 a1 a2 a3→G):G:=by
 obtain⟨a0,a1,a2,a3,p0,p1,p2,p3,p4⟩:=h
 exact k a0 a1 a2 a3 p0 p1 p2 p3 p4
theorem u2o {A0 A1 A2 A3:Type} {P0 P1 P2 P3 P4 P5:A0→A1→A2→A3→Prop} {G:Prop} (h:∃a0 a1 a2 a3,P0 a0 a1 a2 a3∧P1 a0 a1 a2 a3∧P2 a0 a1 a2 a3∧P3 a0 a1 a2 a3∧P4 a0 a1 a2 a3∧P5 a0 a1 a2 a3) (k:∀a0 a1 a2 a3,P0 a0 a1 a2 a3→P1 a0 a1 a2 a3→P2 a0 a1 a2 a3→P3 a0 a1 a2 a3→P4 a0 a1 a2 a3→P5 a0 a1 a2 a3→G):G:=by
 obtain⟨a0,a1,a2,a3,p0,p1,p2,p3,p4,p5⟩:=h
 exact k a0 a1 a2 a3 p0 p1 p2 p3 p4 p5
theorem x2v {A0 A1 A2 A3 A4:Type} {P0:A0→A1→A2→A3→A4→Prop} {G:Prop} (h:∃a0 a1 a2 a3 a4,P0 a0 a1 a2 a3 a4) (k:∀a0 a1 a2 a3 a4,P0 a0 a1 a2 a3 a4→G):G:=by
 obtain⟨a0,a1,a2,a3,a4,p0⟩:=h
 exact k a0 a1 a2 a3 a4 p0
theorem x2u {A0 A1 A2 A3 A4:Type} {P0 P1:A0→A1→A2→A3→A4→Prop} {G:Prop} (h:∃a0 a1 a2 a3 a4,P0 a0 a1 a2 a3 a4∧P1 a0 a1 a2 a3 a4) (k:∀a0 a1 a2 a3 a4,P0 a0 a1 a2 a3 a4→P1 a0 a1 a2 a3 a4→G):G:=by
 obtain⟨a0,a1,a2,a3,a4,p0,p1⟩:=h
 exact k a0 a1 a2 a3 a4 p0 p1
theorem y8r {A0 A1 A2 A3 A4:Type} {P0 P1 P2:A0→A1→A2→A3→A4→Prop} {G:Prop} (h:∃a0 a1 a2 a3 a4,P0 a0 a1 a2 a3 a4∧P1 a0 a1 a2 a3 a4∧P2 a0 a1 a2 a3 a4) (k:∀a0 a1 a2 a3 a4,P0 a0 a1 a2 a3 a4→P1 a0 a1 a2 a3 a4→P2 a0 a1 a2 a3 a4→G):G:=by
 obtain⟨a0,a1,a2,a3,a4,p0,p1,p2⟩:=h
 exact k a0 a1 a2 a3 a4 p0 p1 p2
theorem y8q {A0 A1 A2 A3 A4:Type} {P0 P1 P2 P3 P4 P5:A0→A1→A2→A3→A4→Prop} {G:Prop} (h:∃a0 a1 a2 a3 a4,P0 a0 a1 a2 a3 a4∧P1 a0 a1 a2 a3 a4∧P2 a0 a1 a2 a3 a4∧P3 a0 a1 a2 a3 a4∧P4 a0 a1 a2 a3 a4∧P5 a0 a1 a2 a3 a4) (k:∀a0 a1 a2 a3 a4,P0 a0 a1 a2 a3 a4→P1 a0 a1 a2 a3 a4→P2 a0 a1 a2 a3 a4→P3 a0 a1 a2 a3 a4→P4 a0 a1 a2 a3 a4→P5 a0 a1 a2 a3 a4→G):G:=by
 obtain⟨a0,a1,a2,a3,a4,p0,p1,p2,p3,p4,p5⟩:=h
 exact k a0 a1 a2 a3 a4 p0 p1 p2 p3 p4 p5
theorem x8c {A0 A1 A2 A3 A4 A5:Type} {P0 P1 P2 P3:A0→A1→A2→A3→A4→A5→Prop} {G:Prop} (h:∃a0 a1 a2 a3 a4 a5,P0 a0 a1 a2 a3 a4 a5∧P1 a0 a1 a2 a3 a4 a5∧P2 a0 a1 a2 a3 a4 a5∧P3 a0 a1 a2 a3 a4 a5) (k:∀a0 a1 a2 a3 a4 a5,P0 a0 a1 a2 a3 a4 a5→P1 a0 a1 a2 a3 a4 a5→P2 a0 a1 a2 a3 a4 a5→P3 a0 a1 a2 a3 a4 a5→G):G:=by
 obtain⟨a0,a1,a2,a3,a4,a5,p0,p1,p2,p3⟩:=h
 exact k a0 a1 a2 a3 a4 a5 p0 p1 p2 p3
theorem y8p {A0 A1 A2 A3 A4 A5:Type} {P0 P1 P2 P3 P4:A0→A1→A2→A3→A4→A5→Prop} {G:Prop} (h:∃a0 a1 a2 a3 a4 a5,P0 a0 a1 a2 a3 a4 a5∧P1 a0 a1 a2 a3 a4 a5∧P2 a0 a1 a2 a3 a4 a5∧P3 a0 a1 a2 a3 a4 a5∧P4 a0 a1 a2 a3 a4 a5) (k:∀a0 a1 a2 a3 a4 a5,P0 a0 a1 a2 a3 a4 a5→P1 a0 a1 a2 a3 a4 a5→P2 a0 a1 a2 a3 a4 a5→P3 a0 a1 a2 a3 a4 a5→P4 a0 a1 a2 a3 a4 a5→G):G:=by
 obtain⟨a0,a1,a2,a3,a4,a5,p0,p1,p2,p3,p4⟩:=h
 exact k a0 a1 a2 a3 a4 a5 p0 p1 p2 p3 p4
theorem y8o {A0 A1 A2 A3 A4 A5 A6:Type} {P0:A0→A1→A2→A3→A4→A5→A6→Prop} {G:Prop} (h:∃a0 a1 a2 a3 a4 a5 a6,P0 a0 a1 a2 a3 a4 a5 a6) (k:∀a0 a1 a2 a3 a4 a5 a6,P0 a0 a1 a2 a3 a4 a5 a6→G):G:=by
 obtain⟨a0,a1,a2,a3,a4,a5,a6,p0⟩:=h
 exact k a0 a1 a2 a3 a4 a5 a6 p0
theorem y8n {A0 A1 A2 A3 A4 A5 A6:Type} {P0 P1 P2:A0→A1→A2→A3→A4→A5→A6→Prop} {G:Prop} (h:∃a0 a1 a2 a3 a4 a5 a6,P0 a0 a1 a2 a3 a4 a5 a6∧P1 a0 a1 a2 a3 a4 a5 a6∧P2 a0 a1 a2 a3 a4 a5 a6) (k:∀a0 a1 a2 a3 a4 a5 a6,P0 a0 a1 a2 a3 a4 a5 a6→P1 a0 a1 a2 a3 a4 a5 a6→P2 a0 a1 a2 a3 a4 a5 a6→G):G:=by
 obtain⟨a0,a1,a2,a3,a4,a5,a6,p0,p1,p2⟩:=h
 exact k a0 a1 a2 a3 a4 a5 a6 p0 p1 p2
theorem ns {α:Type} {a:α} {P:Prop} (h:none=some a):P:=by cases h
inductive MV where
 |none
 |bool (b:Bool)
 |int (i:Int)
 |sym (n:Nat)
 |txt (s:Str)
 |tup (xs:List MV)
 |ref (a:Addr)
 |con (v:Value)
set_option genCtorIdx true in
set_option genInjectivity true in
inductive MObj where
 |list (xs:List MV)
 |dI (kvs:List (Int×MV))
 |dS (kvs:List (Nat×MV))
 |inst (C:Addr) (fs:List (Nat×MV))
 |exc (C:Addr) (fs:List (Nat×MV))
 |frz (ns:List Int)
noncomputable def MObj.isFrz:MObj→Bool
 |.frz _=>true
 |_=>false
noncomputable abbrev Hp:=Addr→Option MObj
noncomputable abbrev Loc:=List (Option MV)
noncomputable def Hp.put (σ:Hp) (a:Addr) (o:MObj):Hp:=fun b=>if b=a then some o else σ b
set_option genCtorIdx true in
inductive SrcK where
 |exp|range|zip
inductive ME where
 |none
 |bool (b:Bool)
 |int (i:Int)
 |sym (n:Nat)
 |loc (i:Nat)
 |con (v:Value)
 |gint (i:Int)
 |attr (e:ME) (n:Nat)
 |item (e i:ME)
 |slice (e lo hi:ME)
 |bin (op:Operator) (a b:ME)
 |not (e:ME)
 |neg (e:ME)
 |and (es:List ME)
 |or (es:List ME)
 |cmp (op:CmpOp) (a b:ME)
 |ite (c a b:ME)
 |tup (es:List ME)
 |list (es:List ME)
 |dI
 |dS
 |call (f:ME) (args:List ME)
 |meth (o:ME) (n:Nat) (args:List ME)
 |comp (elt:ME) (ti:List Nat) (one:Bool) (k:SrcK) (e1 e2:ME) (conds:List ME)
 |cmp2 (op op':CmpOp) (a b c:ME)
 |rev (e:ME)
 |dK (ks:List Nat) (es:List ME)
inductive MT where
 |nm (i:Nat)
 |attr (e:ME) (n:Nat)
 |item (e i:ME)
 |tup (is:List Nat)
inductive MS where
 |expr (e:ME)
 |cont
 |ret (e:ME)
 |asg (t:MT) (e:ME)
 |aug (t:MT) (op:Operator) (e:ME)
 |ite (c:ME) (a b:List MS)
 |whl (c:ME) (b:List MS)
 |for (t:MT) (k:SrcK) (e1 e2:ME) (b:List MS)
 |rse (e:ME)
 |tryF (b f:List MS)
 |tryX (b:List MS) (ty:ME) (i:Nat) (h:List MS)
set_option genCtorIdx true in
inductive Out where
 |next|cont|brk
 |ret (v:MV)
structure Tab where
 sym:List Str
 plain:List (Addr×List Nat)
 eplain:List (Addr×List Nat)
 meths:List ((Addr×Nat)×Addr)
 clsAttrs:List ((Addr×Nat)×Addr)
 subs:List ((Addr×Addr)×Bool)
noncomputable def w3d:Nat:=0
noncomputable def sPop:Nat:=1
noncomputable def v7w:Nat:=2
noncomputable def sGet:Nat:=3
noncomputable def Tab.okAttr (T:Tab) (C:Addr) (n:Nat):Bool:=(T.plain.lookup C).any fun l=>l.contains n
noncomputable def Tab.okExc (T:Tab) (C:Addr) (n:Nat):Bool:=(T.eplain.lookup C).any fun l=>l.contains n
noncomputable def u1u (v:MV) (Q:Bool→Prop):Prop:=match v with
 |.bool b=>Q b
 |.int i=>Q (decide (i≠0))
 |.none=>Q false
 |_=>False
mutual
noncomputable def MV.isData (n:Nat) (m:MV):Bool:=match m with
 |.none=>true
 |.bool _=>true
 |.int _=>true
 |.sym _=>true
 |.tup xs=>match n with
  |0=>false
  |n+1=>u2t n xs
 |_=>false
termination_by structural m
noncomputable def u2t (n:Nat) (l:List MV):Bool:=match l with
 |[]=>true
 |x::r=>x.isData n && u2t n r
termination_by structural l
end
noncomputable def u1d (xs:List MV):Bool:=u2t 8 xs
mutual
noncomputable def MV.beq:MV→MV→Bool
 |.none,y=>match y with
  |.none=>true
  |_=>false
 |.bool a,y=>match y with
  |.bool b=>a==b
  |.int j=>decide ((if a then 1 else 0)=j)
  |_=>false
 |.int i,y=>match y with
  |.bool b=>decide (i=(if b then 1 else 0))
  |.int j=>decide (i=j)
  |_=>false
 |.sym n,y=>match y with
  |.sym m=>decide (n=m)
  |_=>false
 |.tup xs,y=>match y with
  |.tup ys=>beqs xs ys
  |_=>false
 |_,_=>false
noncomputable def beqs:List MV→List MV→Bool
 |[],l=>match l with
  |[]=>true
  |_=>false
 |x::xs,l=>match l with
  |y::ys=>x.beq y && beqs xs ys
  |[]=>false
end
noncomputable def locP (o:Option (Option MV)) (Q:MV→Prop):Prop:=match o with
 |some (some v)=>Q v
 |_=>False
theorem v8g {o:Option (Option MV)} {Q:MV→Prop} (q:locP o Q):∃v,o=some (some v)∧Q v:=by
 cases o with
 |none=>exact False.elim q
 |some o=>cases o with
  |none=>exact False.elim q
  |some v=>exact⟨v,rfl,q⟩
noncomputable def setP:Loc→Nat→MV→(Loc→Prop)→Prop
 |[],_,_,_=>False
 |_::r,0,v,K=>K (some v::r)
 |x::r,n+1,v,K=>setP r n v fun l=>K (x::l)
theorem u5a {loc:Loc} {i:Nat} {v:MV} {K:Loc→Prop} (q:setP loc i v K):i<loc.length∧K (loc.set i (some v)):=by
 induction loc generalizing i K with
 |nil=>exact False.elim q
 |cons x r ih=>cases i with
  |zero=>exact⟨Nat.succ_pos _,q⟩
  |succ n=>exact⟨Nat.succ_lt_succ (ih (i:=n) q).1,(ih (i:=n) (K:=fun l=>K (x::l)) q).2⟩
noncomputable def u7g (loc:Loc) (is:List Nat) (xs:List MV) (K:Loc→Prop):Prop:=match is with
 |[]=>match xs with
  |[]=>K loc
  |_=>False
 |i::is=>match xs with
  |[]=>False
  |x::xs=>setP loc i x fun l=>u7g l is xs K
termination_by structural is
noncomputable def nthP (b:Nat) (xs:List MV) (n:Nat) (Q:MV→Prop):Prop:=match xs with
 |[]=>False
 |x::r=>match b with
  |0=>False
  |b+1=>match n with
   |0=>Q x
   |n+1=>nthP b r n Q
termination_by structural xs
theorem w7l {b:Nat} {xs:List MV} {n:Nat} {Q:MV→Prop} (q:nthP b xs n Q):n<b∧∃x,xs[n]?=some x∧Q x:=by
 induction xs generalizing b n with
 |nil=>exact False.elim q
 |cons x r ih=>cases b with
  |zero=>exact False.elim q
  |succ b=>cases n with
   |zero=>exact⟨Nat.succ_pos _,x,rfl,q⟩
   |succ n=>exact⟨Nat.succ_lt_succ (ih (b:=b) (n:=n) q).1,(ih (b:=b) (n:=n) q).2⟩
noncomputable def u9z (i:Int) (n:Nat):Option Nat:=
 if 0≤i then(if i<n then some i.toNat else none)else if 0≤i+n then some (i+n).toNat else none
noncomputable def u0t:Nat:=16777216
noncomputable def newP (o:MObj) (σ:Hp) (Q:MV→Hp→Prop):Prop:=∀a,σ a=none→Q (.ref a) (σ.put a o)
noncomputable def intP (a b:MV) (K:Int→Int→Prop):Prop:=match a with
 |.int i=>match b with
  |.int j=>K i j
  |_=>False
 |_=>False
noncomputable def addP (a b:MV) (σ:Hp) (Q:MV→Hp→Prop):Prop:=match a with
 |.int i=>match b with
  |.int j=>Q (.int (i+j)) σ
  |_=>False
 |.tup xs=>match b with
  |.tup ys=>(xs≠[]∧ys≠[]∧xs.length+ys.length≤u0t)∧Q (.tup (xs++ys)) σ
  |_=>False
 |.ref l=>match b with
  |.ref k=>∃xs ys,σ l=some (.list xs)∧σ k=some (.list ys)∧xs.length+ys.length≤u0t∧newP (.list (xs++ys)) σ Q
  |_=>False
 |.sym _=>match b with
  |.txt s=>s.length≤1000∧∀s',Q (.txt s') σ
  |_=>False
 |_=>False
noncomputable def mulP (a b:MV) (σ:Hp) (Q:MV→Hp→Prop):Prop:=match a with
 |.int i=>match b with
  |.int j=>(i.natAbs<2^64∧j.natAbs<2^64)∧Q (.int (i*j)) σ
  |_=>False
 |.ref l=>match b with
  |.int n=>∃xs,σ l=some (.list xs)∧0≤n∧n<2^62∧xs.length*n.toNat≤256∧newP (.list (List.replicate n.toNat xs).flatten) σ Q
  |_=>False
 |_=>False
noncomputable def binP (op:Operator) (a b:MV) (σ:Hp) (Q:MV→Hp→Prop):Prop:=match op with
 |.Add=>addP a b σ Q
 |.Sub=>intP a b fun i j=>Q (.int (i- j)) σ
 |.Mult=>mulP a b σ Q
 |.FloorDiv=>intP a b fun i j=>(j≠0∧j.natAbs<1073741824)∧Q (.int (i.fdiv j)) σ
 |.Mod=>intP a b fun i j=>j≠0∧Q (.int (i.fmod j)) σ
 |.Pow=>intP a b fun i j=>(i.natAbs<2^64∧0≤j∧j≤1000000)∧Q (.int (i^j.toNat)) σ
 |.LShift=>intP a b fun i j=>(i.natAbs<2^64∧0≤j∧j≤1000000)∧Q (.int (i*2^j.toNat)) σ
 |.RShift=>intP a b fun i j=>0≤j∧Q (.int (i.fdiv (2^j.toNat))) σ
 |.BitAnd=>intP a b fun i j=>Q (.int (Builtin.bitAnd i j)) σ
 |.BitOr=>intP a b fun i j=>Q (.int (Builtin.bitOr i j)) σ
 |.BitXor=>intP a b fun i j=>Q (.int (Builtin.bitXor i j)) σ
 |_=>False
noncomputable def x3f (a b:MV) (Q:Bool→Prop):Prop:=(a.isData 8=true∧b.isData 8=true)∧Q (a.beq b)
noncomputable def eqP (a b:MV) (σ:Hp) (Q:Bool→Prop):Prop:=match a with
 |.int i=>match b with
  |.int j=>Q (decide (i=j))
  |b=>x3f (.int i) b Q
 |.sym n=>match b with
  |.sym m=>Q (n==m)
  |b=>x3f (.sym n) b Q
 |.ref l=>match b with
  |.ref k=>∃xs ys,σ l=some (.list xs)∧σ k=some (.list ys)∧(u1d xs=true∧u1d ys=true)∧Q (beqs xs ys)
  |_=>False
 |a=>x3f a b Q
noncomputable def nonP (a b:MV) (Q:Bool→Prop):Prop:=match b with
 |.none=>match a with
  |.none=>Q true
  |.txt _=>False
  |.con _=>False
  |_=>Q false
 |_=>False
noncomputable def inP (a b:MV) (σ:Hp) (Q:Bool→Prop):Prop:=match b with
 |.tup xs=>(a.isData 8=true∧u1d xs=true)∧Q (xs.any fun x=>x.beq a)
 |.ref l=>∃xs,σ l=some (.list xs)∧(a.isData 8=true∧u1d xs=true)∧Q (xs.any fun x=>x.beq a)
 |_=>False
noncomputable def cmpP (op:CmpOp) (a b:MV) (σ:Hp) (Q:Bool→Prop):Prop:=match op with
 |.Eq=>eqP a b σ Q
 |.NotEq=>eqP a b σ fun c=>Q (!c)
 |.Lt=>intP a b fun i j=>Q (decide (i<j))
 |.LtE=>intP a b fun i j=>Q (decide (i≤j))
 |.Gt=>intP a b fun i j=>Q (decide (j<i))
 |.GtE=>intP a b fun i j=>Q (decide (j≤i))
 |.Is=>nonP a b Q
 |.IsNot=>nonP a b fun c=>Q (!c)
 |.In=>inP a b σ Q
 |.NotIn=>inP a b σ fun c=>Q (!c)
noncomputable def natP (i:MV) (K:Nat→Prop):Prop:=match i with
 |.int k=>match k with
  |.ofNat n=>K n
  |.negSucc _=>False
 |_=>False
theorem w7o {i:MV} {K:Nat→Prop} (q:natP i K):∃n:Nat,i=.int n∧K n:=by
 cases i with
 |int k=>cases k with
  |ofNat n=>exact⟨n,rfl,q⟩
  |negSucc n=>exact False.elim q
 |_=>exact False.elim q
noncomputable def y7x (a:Addr) (i:MV) (σ:Hp) (Q:MV→Hp→Prop):Prop:=
 (∃k xs j x,i=.int k∧(-1000000≤k∧k≤1000000)∧σ a=some (.list xs)∧u9z k xs.length=some j∧xs[j]?=some x∧Q x σ)∨
  ∃n kvs x,i=.sym n∧σ a=some (.dS kvs)∧kvs.lookup n=some x∧Q x σ
noncomputable def u4h (o i:MV) (σ:Hp) (Q:MV→Hp→Prop):Prop:=match o with
 |.tup xs=>natP i fun n=>nthP 64 xs n fun x=>Q x σ
 |.ref a=>y7x a i σ Q
 |_=>False
noncomputable def cutL (lo hi:MV) (xs:List MV) (K:List MV→Prop):Prop:=
 (∃h,lo=.none∧hi=.int h∧0≤h∧K (xs.take h.toNat))∨(∃l,lo=.int l∧hi=.none∧0≤l∧K (xs.drop l.toNat))∨
  ∃l h,lo=.int l∧hi=.int h∧0≤l∧0≤h∧K ((xs.take h.toNat).drop l.toNat)
noncomputable def u8p (o lo hi:MV) (σ:Hp) (Q:MV→Hp→Prop):Prop:=
 (∃xs l,o=.tup xs∧lo=.int l∧hi=.none∧(1≤l∧l≤xs.length∧xs.length≤u0t)∧Q (.tup (xs.drop l.toNat)) σ)∨
  ∃a xs,o=.ref a∧xs.length≤u0t∧(σ a=some (.list xs)∨∃ns,σ a=some (.frz ns)∧xs=ns.map MV.int)∧cutL lo hi xs fun ys=>newP (.list ys) σ Q
noncomputable def revP (v:MV) (Q:MV→Prop):Prop:=match v with|.tup xs=>xs.length≤u0t∧Q (.tup xs.reverse)|_=>False
noncomputable def putI (k:Int) (v:MV):List (Int×MV)→List (Int×MV)
 |[]=>[(k,v)]
 |(j,u)::r=>if j=k then(k,v)::r else(j,u)::putI k v r
noncomputable def putN (k:Nat) (v:MV):List (Nat×MV)→List (Nat×MV)
 |[]=>[(k,v)]
 |(j,u)::r=>if j=k then(k,v)::r else(j,u)::putN k v r
theorem w3l {k j:Int} {u v:MV} {r:List (Int×MV)}:putI k v ((j,u)::r)=if j=k then(k,v)::r else(j,u)::putI k v r:=rfl
theorem u3u {k j:Nat} {u v:MV} {r:List (Nat×MV)}:putN k v ((j,u)::r)=if j=k then(k,v)::r else(j,u)::putN k v r:=rfl
noncomputable def u5b (o i v:MV) (σ:Hp) (K:Hp→Prop):Prop:=∃a,o=.ref a∧
 ((∃k xs,i=.int k∧σ a=some (.list xs)∧0≤k∧k≤1000000∧k<xs.length∧K (σ.put a (.list (xs.set k.toNat v))))∨
  (∃k kvs,i=.int k∧σ a=some (.dI kvs)∧kvs.length≤1000∧K (σ.put a (.dI (putI k v kvs))))∨
  ∃n kvs,i=.sym n∧σ a=some (.dS kvs)∧kvs.length≤1000∧K (σ.put a (.dS (putN n v kvs))))
noncomputable def v3c (T:Tab) (o:MV) (n:Nat) (σ:Hp) (Q:MV→Prop):Prop:=
 ∃a C fs v,o=.ref a∧fs.lookup n=some v∧Q v∧((σ a=some (.inst C fs)∧T.okAttr C n=true)∨(σ a=some (.exc C fs)∧T.okExc C n=true))
noncomputable def u3h (T:Tab) (o:MV) (n:Nat) (v:MV) (σ:Hp) (K:Hp→Prop):Prop:=
 ∃a C fs,o=.ref a∧fs.length≤900∧((σ a=some (.inst C fs)∧T.okAttr C n=true∧K (σ.put a (.inst C (putN n v fs))))∨
  (σ a=some (.exc C fs)∧T.okExc C n=true∧K (σ.put a (.exc C (putN n v fs)))))
noncomputable def y0d (n:Nat) (K:Value→Prop):Prop:=(n=w3d∧K (.builtin "list.append"))∨(n=sPop∧K (.builtin "list.pop"))∨(n=v7w∧K (.builtin "list.reverse"))
noncomputable def v0b (T:Tab) (o:MV) (n:Nat) (σ:Hp) (K:Value→List MV→Prop):Prop:=
 (∃C f,o=.con (.ref C)∧T.clsAttrs.lookup (C,n)=some f∧K (.ref f) [])∨∃a,o=.ref a∧
  ((∃C fs f,σ a=some (.inst C fs)∧fs.lookup n=none∧T.meths.lookup (C,n)=some f∧K (.ref f) [.ref a])∨
   (∃xs,σ a=some (.list xs)∧y0d n fun f=>K f [.ref a])∨∃kvs,σ a=some (.dI kvs)∧n=sGet∧K (.builtin "dict.get") [.ref a])
noncomputable def getI (k:Int):List (Int×MV)→Option MV
 |[]=>none
 |(j,u)::r=>if j=k then some u else getI k r
theorem x7o {k j:Int} {u:MV} {r:List (Int×MV)}:getI k ((j,u)::r)=if j=k then some u else getI k r:=rfl
noncomputable def srcP (k:SrcK) (v1 v2:MV) (σ:Hp) (K:List MV→(Hp→Prop)→Prop):Prop:=match k with
 |.exp=>match v1 with
  |.tup xs=>K xs fun _=>True
  |.ref a=>∃xs,σ a=some (.list xs)∧K xs fun σ'=>σ' a=some (.list xs)
  |_=>False
 |.range=>match v1 with
  |.int n=>(-(2^62)≤n∧n<2^62)∧K ((List.range n.toNat).map fun(i:Nat)=>MV.int (i:Int)) fun _=>True
  |_=>False
 |.zip=>∃a b xs ys,v1=.ref a∧v2=.ref b∧σ a=some (.list xs)∧σ b=some (.list ys)∧K (List.zipWith (fun x y=>.tup [x,y]) xs ys) fun σ'=>σ' a=some (.list xs)∧σ' b=some (.list ys)
noncomputable def u5y (loc:Loc):List Nat→List MV→Loc
 |i::is,x::xs=>u5y (loc.set i (some x)) is xs
 |_,_=>loc
theorem v3y {is:List Nat} {loc:Loc} {xs:List MV} {K:Loc→Prop} (q:u7g loc is xs K):(∀i ∈ is,i<loc.length)∧xs.length=is.length∧K (u5y loc is xs):=by
 induction is generalizing loc xs with
 |nil=>cases xs with
  |nil=>exact⟨fun _ h=>(nomatch h),rfl,q⟩
  |cons _ _=>exact False.elim q
 |cons i is ih=>cases xs with
  |nil=>exact False.elim q
  |cons x xs=>exact u0a (u5a (loc:=loc) (i:=i) (v:=x) q) fun a b=>u2k (ih b) fun c d e=>⟨fun j hj=>(List.mem_cons.mp hj).elim (fun z=>z▸a) fun hj=>Nat.lt_of_lt_of_eq (c j hj) List.length_set,congrArg (· +1) d,e⟩
noncomputable def u9q (ti:List Nat) (one:Bool) (x:MV) (loc:Loc) (K:Loc→Prop):Prop:=
 (∀i ∈ ti,i<loc.length)∧match one with
 |true=>match ti with
  |[i]=>K (loc.set i (some x))
  |_=>False
 |false=>match x with
  |.tup xs=>xs.length=ti.length∧K (u5y loc ti xs)
  |_=>False
noncomputable abbrev u1n:=Nat→Value→List MV→Hp→(MV→Hp→Prop)→(MV→Hp→Prop)→Prop
section
variable (T:Tab) (CS:u1n) (r:Nat)
mutual
noncomputable def ewp:ME→Loc→Hp→(MV→Hp→Prop)→(MV→Hp→Prop)→Prop
 |.none,_,σ,Q,_=>Q .none σ
 |.bool b,_,σ,Q,_=>Q (.bool b) σ
 |.int i,_,σ,Q,_=>Q (.int i) σ
 |.sym n,_,σ,Q,_=>Q (.sym n) σ
 |.loc i,loc,σ,Q,_=>locP loc[i]? fun v=>Q v σ
 |.con v,_,σ,Q,_=>Q (.con v) σ
 |.gint i,_,σ,Q,_=>Q (.int i) σ
 |.attr e n,loc,σ,Q,E=>ewp e loc σ (fun o σ1=>v3c T o n σ1 fun v=>Q v σ1) E
 |.item e i,loc,σ,Q,E=>ewp e loc σ (fun o σ1=>ewp i loc σ1 (fun j σ2=>u4h o j σ2 Q) E) E
 |.slice e lo hi,loc,σ,Q,E=>ewp e loc σ (fun o σ1=>ewp lo loc σ1 (fun l σ2=>ewp hi loc σ2 (fun h σ3=>u8p o l h σ3 Q) E) E) E
 |.bin op a b,loc,σ,Q,E=>ewp a loc σ (fun va σ1=>ewp b loc σ1 (fun vb σ2=>binP op va vb σ2 Q) E) E
 |.not e,loc,σ,Q,E=>ewp e loc σ (fun v σ1=>u1u v fun b=>Q (.bool !b) σ1) E
 |.neg e,loc,σ,Q,E=>ewp e loc σ (fun v σ1=>match v with|.int i=>Q (.int (-i)) σ1|_=>False) E
 |.and es,loc,σ,Q,E=>u5v true es loc σ Q E
 |.or es,loc,σ,Q,E=>u5v false es loc σ Q E
 |.cmp op a b,loc,σ,Q,E=>ewp a loc σ (fun va σ1=>ewp b loc σ1 (fun vb σ2=>cmpP op va vb σ2 fun c=>Q (.bool c) σ2) E) E
 |.ite c a b,loc,σ,Q,E=>twp c loc σ (fun t σ1=>if t then ewp a loc σ1 Q E else ewp b loc σ1 Q E) E
 |.tup es,loc,σ,Q,E=>ewps es loc σ (fun vs σ1=>Q (.tup vs) σ1) E
 |.list es,loc,σ,Q,E=>ewps es loc σ (fun vs σ1=>newP (.list vs) σ1 Q) E
 |.dI,_,σ,Q,_=>newP (.dI []) σ Q
 |.dS,_,σ,Q,_=>newP (.dS []) σ Q
 |.cmp2 _ _ _ _ _,_,_,_,_=>False
 |.rev e,loc,σ,Q,E=>ewp e loc σ (fun v σ1=>revP v fun u=>Q u σ1) E
 |.dK ks es,loc,σ,Q,E=>ewps es loc σ (fun vs σ1=>newP (.dS (ks.zip vs)) σ1 Q) E
 |.call f args,loc,σ,Q,E=>ewp f loc σ (fun fv σ1=>match fv with|.con v=>ewps args loc σ1 (fun vs σ2=>CS r v vs σ2 Q E) E|_=>False) E
 |.meth o n args,loc,σ,Q,E=>ewp o loc σ (fun ov σ1=>v0b T ov n σ1 fun f first=>ewps args loc σ1 (fun vs σ2=>CS r f (first++vs) σ2 Q E) E) E
 |.comp elt ti one k e1 e2 conds,loc,σ,Q,E=>r≠0∧ewp e1 loc σ (fun v1 σ1=>ewp e2 loc σ1 (fun v2 σ2=>srcP k v1 v2 σ2 fun xs st=>
   ∃I:List MV→List MV→Hp→Prop,I xs [] σ2∧(∀rest acc σ',I rest acc σ'→st σ'∧acc.length≤u0t)∧
    (∀x rest acc σ',I (x::rest) acc σ'→u9q ti one x loc fun loc'=>u4u conds loc' σ' (fun t σ3=>if t then ewp elt loc' σ3 (fun y σ4=>I rest (acc++[y]) σ4) (fun _ _=>False)else I rest acc σ3))∧
    ∀acc σ',I [] acc σ'→newP (.list acc) σ' Q) E) E
noncomputable def ewps:List ME→Loc→Hp→(List MV→Hp→Prop)→(MV→Hp→Prop)→Prop
 |[],_,σ,Q,_=>Q [] σ
 |e::es,loc,σ,Q,E=>ewp e loc σ (fun v σ1=>ewps es loc σ1 (fun vs σ2=>Q (v::vs) σ2) E) E
noncomputable def u5v:Bool→List ME→Loc→Hp→(MV→Hp→Prop)→(MV→Hp→Prop)→Prop
 |_,[],_,_,_,_=>False
 |isAnd,e::es,loc,σ,Q,E=>match es with
  |[]=>ewp e loc σ Q E
  |_::_=>ewp e loc σ (fun v σ1=>u1u v fun b=>if b==isAnd then u5v isAnd es loc σ1 Q E else Q v σ1) E
noncomputable def twp:ME→Loc→Hp→(Bool→Hp→Prop)→(MV→Hp→Prop)→Prop
 |.not e,loc,σ,Q,E=>twp e loc σ (fun b σ1=>Q (!b) σ1) E
 |.and es,loc,σ,Q,E=>u4x true es loc σ Q E
 |.or es,loc,σ,Q,E=>u4x false es loc σ Q E
 |.ite c a b,loc,σ,Q,E=>twp c loc σ (fun t σ1=>if t then twp a loc σ1 Q E else twp b loc σ1 Q E) E
 |.cmp op a b,loc,σ,Q,E=>ewp a loc σ (fun va σ1=>ewp b loc σ1 (fun vb σ2=>cmpP op va vb σ2 fun c=>Q c σ2) E) E
 |.cmp2 op op' a b c,loc,σ,Q,E=>ewp a loc σ (fun va σ1=>ewp b loc σ1 (fun vb σ2=>cmpP op va vb σ2 fun t=>if t then ewp c loc σ2 (fun vc σ3=>cmpP op' vb vc σ3 fun t=>Q t σ3) E else Q false σ2) E) E
 |.bool b,_,σ,Q,_=>Q b σ
 |.loc i,loc,σ,Q,_=>locP loc[i]? fun v=>u1u v fun b=>Q b σ
 |.attr e n,loc,σ,Q,E=>ewp e loc σ (fun o σ1=>v3c T o n σ1 fun v=>u1u v fun b=>Q b σ1) E
 |.item e i,loc,σ,Q,E=>ewp e loc σ (fun o σ1=>ewp i loc σ1 (fun j σ2=>u4h o j σ2 fun v σ3=>u1u v fun b=>Q b σ3) E) E
 |.bin op a b,loc,σ,Q,E=>ewp a loc σ (fun va σ1=>ewp b loc σ1 (fun vb σ2=>binP op va vb σ2 fun v σ3=>u1u v fun b=>Q b σ3) E) E
 |.call f args,loc,σ,Q,E=>ewp f loc σ (fun fv σ1=>match fv with|.con v=>ewps args loc σ1 (fun vs σ2=>CS r v vs σ2 (fun v σ3=>u1u v fun b=>Q b σ3) E) E|_=>False) E
 |.meth o n args,loc,σ,Q,E=>ewp o loc σ (fun ov σ1=>v0b T ov n σ1 fun f first=>ewps args loc σ1 (fun vs σ2=>CS r f (first++vs) σ2 (fun v σ3=>u1u v fun b=>Q b σ3) E) E) E
 |_,_,_,_,_=>False
noncomputable def u4x:Bool→List ME→Loc→Hp→(Bool→Hp→Prop)→(MV→Hp→Prop)→Prop
 |isAnd,[],_,σ,Q,_=>Q isAnd σ
 |isAnd,e::es,loc,σ,Q,E=>twp e loc σ (fun b σ1=>if b==isAnd then u4x isAnd es loc σ1 Q E else Q b σ1) E
noncomputable def u4u:List ME→Loc→Hp→(Bool→Hp→Prop)→Prop
 |[],_,σ,Q=>Q true σ
 |c::cs,loc,σ,Q=>cs=[]∧twp c loc σ Q (fun _ _=>False)
end
noncomputable def asgP (t:MT) (v:MV) (loc:Loc) (σ:Hp) (K:Loc→Hp→Prop) (E:MV→Hp→Prop):Prop:=match t with
 |.nm i=>setP loc i v fun l=>K l σ
 |.attr e n=>ewp T CS r e loc σ (fun o σ1=>u3h T o n v σ1 fun σ2=>K loc σ2) E
 |.item e i=>ewp T CS r e loc σ (fun o σ1=>ewp T CS r i loc σ1 (fun j σ2=>u5b o j v σ2 fun σ3=>K loc σ3) E) E
 |.tup is=>r≠0∧match v with
  |.tup xs=>u7g loc is xs fun l=>K l σ
  |_=>False
noncomputable def augP (t:MT) (op:Operator) (e:ME) (loc:Loc) (σ:Hp) (K:Loc→Hp→Prop) (E:MV→Hp→Prop):Prop:=match t with
 |.nm i=>locP loc[i]? fun old=>ewp T CS r e loc σ (fun v σ1=>(match old,v with|.int _,.int _=>True|_,_=>False)∧binP op old v σ1 fun new σ2=>setP loc i new fun l=>K l σ2) E
 |.attr o n=>ewp T CS r o loc σ (fun ov σ1=>v3c T ov n σ1 fun old=>ewp T CS r e loc σ1 (fun v σ2=>(match old,v with|.int _,.int _=>True|_,_=>False)∧binP op old v σ2 fun new σ3=>u3h T ov n new σ3 fun σ4=>K loc σ4) E) E
 |.item o i=>ewp T CS r o loc σ (fun ov σ1=>ewp T CS r i loc σ1 (fun iv σ2=>u4h ov iv σ2 fun old σ3=>ewp T CS r e loc σ3 (fun v σ4=>(match old,v with|.int _,.int _=>True|_,_=>False)∧binP op old v σ4 fun new σ5=>u5b ov iv new σ5 fun σ6=>K loc σ6) E) E) E
 |.tup _=>False
noncomputable def subO (C:Addr) (m:MV):Option Bool:=match m with
 |.con v=>match v with
  |.ref D=>T.subs.lookup (C,D)
  |_=>none
 |_=>none
noncomputable def orO (a b:Option Bool):Bool:=match a with
 |some x=>match b with
  |some y=>x||y
  |none=>false
 |none=>false
theorem x1o {a b:Option Bool} (h:orO a b=true):∃x y,a=some x∧b=some y∧(x||y)=true:=by
 cases a with
 |none=>exact(Bool.false_ne_true h).elim
 |some x=>cases b with
  |none=>exact(Bool.false_ne_true h).elim
  |some y=>exact⟨x,y,rfl,rfl,h⟩
noncomputable def w5j (tv:MV) (C:Addr):Bool:=match tv with
 |.con v=>subO T C (.con v)==some true
 |.tup xs=>match xs with
  |[]=>false
  |a::r=>match r with
   |[]=>false
   |b::q=>q.isEmpty && orO (subO T C a) (subO T C b)
 |_=>false
end
section
variable (T:Tab) (CS:u1n)
mutual
noncomputable def swp:Nat→MS→Loc→Hp→(Out→Loc→Hp→Prop)→(MV→Loc→Hp→Prop)→Prop
 |r,.expr e,loc,σ,Q,E=>ewp T CS r e loc σ (fun _ σ1=>Q .next loc σ1) (fun x σ1=>E x loc σ1)
 |_,.cont,loc,σ,Q,_=>Q .cont loc σ
 |r,.ret e,loc,σ,Q,E=>ewp T CS r e loc σ (fun v σ1=>Q (.ret v) loc σ1) (fun x σ1=>E x loc σ1)
 |r,.asg t e,loc,σ,Q,E=>ewp T CS r e loc σ (fun v σ1=>asgP T CS r t v loc σ1 (fun loc1 σ2=>Q .next loc1 σ2) (fun x σ2=>E x loc σ2)) (fun x σ1=>E x loc σ1)
 |r,.aug t op e,loc,σ,Q,E=>augP T CS r t op e loc σ (fun loc1 σ2=>Q .next loc1 σ2) (fun x σ2=>E x loc σ2)
 |r,.ite c a b,loc,σ,Q,E=>twp T CS r c loc σ (fun t σ1=>if t then swps r a loc σ1 Q E else swps r b loc σ1 Q E) (fun x σ1=>E x loc σ1)
 |r,.whl c b,loc,σ,Q,E=>∃I:Nat→Loc→Hp→Prop,(∃n,I n loc σ)∧∀n loc σ,I n loc σ→
   twp T CS r c loc σ (fun t σ1=>if t then swps r b loc σ1 (fun o loc2 σ2=>match o with
    |.next=>∃m,m<n∧I m loc2 σ2
    |.cont=>∃m,m<n∧I m loc2 σ2
    |.brk=>Q .next loc2 σ2
    |.ret v=>Q (.ret v) loc2 σ2) E else Q .next loc σ1) (fun x σ1=>E x loc σ1)
 |r,.for t k e1 e2 b,loc,σ,Q,E=>r≠0∧ewp T CS r e1 loc σ (fun v1 σ1=>ewp T CS r e2 loc σ1 (fun v2 σ2=>srcP k v1 v2 σ2 fun xs st=>
   ∃I:List MV→Loc→Hp→Prop,I xs loc σ2∧(∀rest loc' σ',I rest loc' σ'→st σ')∧
    (∀x rest loc' σ',I (x::rest) loc' σ'→asgP T CS r t x loc' σ' (fun loc3 σ3=>swps r b loc3 σ3 (fun o loc4 σ4=>match o with
     |.next=>I rest loc4 σ4
     |.cont=>I rest loc4 σ4
     |.brk=>Q .next loc4 σ4
     |.ret v=>Q (.ret v) loc4 σ4) E) (fun _ _=>False))∧
    ∀loc' σ',I [] loc' σ'→Q .next loc' σ') (fun x σ1=>E x loc σ1)) (fun x σ1=>E x loc σ1)
 |r,.rse e,loc,σ,_,E=>r≠0∧ewp T CS r e loc σ (fun v σ1=>∃a C fs,v=.ref a∧σ1 a=some (.exc C fs)∧T.subs.lookup (C,C)=some true∧E v loc σ1) (fun x σ1=>E x loc σ1)
 |r,.tryF b f,loc,σ,Q,E=>swps r b loc σ (fun o loc1 σ1=>swps r f loc1 σ1 (fun o' loc2 σ2=>match o' with|.next=>Q o loc2 σ2|_=>False) (fun _ _ _=>False))
   (fun x loc1 σ1=>swps 0 f loc1 σ1 (fun o' loc2 σ2=>match o' with|.next=>(∃a C fs,x=.ref a∧σ2 a=some (.exc C fs))∧E x loc2 σ2|_=>False) (fun _ _ _=>False))
 |r,.tryX b ty i h,loc,σ,Q,E=>swps r b loc σ Q
   (fun x loc1 σ1=>ewp T CS 0 ty loc1 σ1 (fun tv σ2=>∃a C fs,x=.ref a∧σ2 a=some (.exc C fs)∧w5j T tv C=true∧i<loc1.length∧
    swps 0 h (loc1.set i (some x)) σ2 (fun o loc2 σ3=>Q o (loc2.set i none) σ3) (fun _ _ _=>False)) (fun _ _=>False))
noncomputable def swps:Nat→List MS→Loc→Hp→(Out→Loc→Hp→Prop)→(MV→Loc→Hp→Prop)→Prop
 |_,[],loc,σ,Q,_=>Q .next loc σ
 |r,s::rest,loc,σ,Q,E=>swp r s loc σ (fun o loc1 σ1=>match o with
  |.next=>swps r rest loc1 σ1 Q E
  |o=>Q o loc1 σ1) E
end
end
end Mine
end
section
open PySem PySem.W PyProof.Rows
set_option maxRecDepth 20000
namespace Mine
noncomputable def u0z (ys:List Value) (n:Nat):Obj:={cls:=.type "tuple",data:=.seq ys.toArray n}
structure Sy where
 l:List Str
 ban:Addr→Prop
section
variable (sy:Sy) (h:Heap)
mutual
noncomputable def VRel:MV→Value→Prop
 |.none,v=>v=.none
 |.bool b,v=>v=.bool b
 |.int i,v=>∃t,v=.int i t
 |.sym n,v=>∃x t,sy.l[n]?=some x∧v=.str x t
 |.txt x,v=>∃t,v=.str x t
 |.tup xs,v=>∃a ys n,v=.ref a∧¬sy.ban a∧h.get? a=some (u0z ys n)∧u0j xs ys
 |.ref a,v=>v=.ref a
 |.con c,v=>v=c∧handedIn c=true
noncomputable def u0j:List MV→List Value→Prop
 |[],ys=>ys=[]
 |x::xs,ys=>∃y r,ys=y::r∧VRel x y∧u0j xs r
end
end
noncomputable def TK (sy:Sy) (h h':Heap):Prop:=∀a ys n,¬sy.ban a→h.get? a=some (u0z ys n)→h'.get? a=some (u0z ys n)
theorem TK.refl {sy:Sy} (h:Heap):TK sy h h:=fun _ _ _ _ e=>e
theorem TK.trans {sy:Sy} {h1 h2 h3:Heap} (x:TK sy h1 h2) (y:TK sy h2 h3):TK sy h1 h3:=fun a ys n b e=>y a ys n b (x a ys n b e)
theorem VRel.mv {l:List Str} {b b':Addr→Prop} {h h':Heap} (k:∀a ys n,¬b a→h.get? a=some (u0z ys n)→¬b' a∧h'.get? a=some (u0z ys n)) {m:MV}:∀{v:Value},VRel ⟨l,b⟩ h m v→VRel ⟨l,b'⟩ h' m v:=
 @MV.rec (fun m=>∀{v:Value},VRel ⟨l,b⟩ h m v→VRel ⟨l,b'⟩ h' m v) (fun ms=>∀{vs:List Value},u0j ⟨l,b⟩ h ms vs→u0j ⟨l,b'⟩ h' ms vs) id (fun _=>id) (fun _=>id) (fun _=>id) (fun _=>id)
  (fun _ f _ r=>u7n r fun a ys n e nb g q=>⟨a,ys,n,e,(k a ys n nb g).1,(k a ys n nb g).2,f q⟩) (fun _=>id) (fun _=>id) id (fun _ _ f g _ r=>u1c r fun y r' e p q=>⟨y,r',e,f p,g q⟩) m
theorem u0j.map {sy sy':Sy} {h h':Heap} (f:∀{m:MV} {v:Value},VRel sy h m v→VRel sy' h' m v) {ms:List MV} {vs:List Value} (r:u0j sy h ms vs):u0j sy' h' ms vs:=by
 induction ms generalizing vs with
 |nil=>exact r
 |cons m ms ih=>exact u1c r fun y r' e p q=>⟨y,r',e,f p,ih q⟩
theorem VRel.tk {sy:Sy} {h h':Heap} (k:TK sy h h') {m:MV} {v:Value} (r:VRel sy h m v):VRel sy h' m v:=VRel.mv (fun a ys n nb g=>⟨nb,k a ys n nb g⟩) r
theorem u0j.tk {sy:Sy} {h h':Heap} (k:TK sy h h') {ms:List MV} {vs:List Value} (r:u0j sy h ms vs):u0j sy h' ms vs:=r.map fun p=>p.tk k
section
variable {sy:Sy} {h:Heap}
theorem u0j.nil:u0j sy h [] []:=rfl
theorem u0j.cons {m:MV} {v:Value} {ms:List MV} {vs:List Value} (p:VRel sy h m v) (q:u0j sy h ms vs):u0j sy h (m::ms) (v::vs):=⟨v,vs,rfl,p,q⟩
theorem u0j.cons_inv {m:MV} {ms:List MV} {vs:List Value} (r:u0j sy h (m::ms) vs):∃v r',vs=v::r'∧VRel sy h m v∧u0j sy h ms r':=r
theorem u0j.nil_inv {vs:List Value} (r:u0j sy h [] vs):vs=[]:=r
theorem VRel.none_inv {v:Value} (r:VRel sy h .none v):v=.none:=r
theorem VRel.bool_inv {b:Bool} {v:Value} (r:VRel sy h (.bool b) v):v=.bool b:=r
theorem VRel.int_inv {i:Int} {v:Value} (r:VRel sy h (.int i) v):∃t,v=.int i t:=r
theorem VRel.sym_inv {n:Nat} {v:Value} (r:VRel sy h (.sym n) v):∃x t,sy.l[n]?=some x∧v=.str x t:=r
theorem VRel.txt_inv {x:Str} {v:Value} (r:VRel sy h (.txt x) v):∃t,v=.str x t:=r
theorem VRel.tup_inv {xs:List MV} {v:Value} (r:VRel sy h (.tup xs) v):∃a ys n,v=.ref a∧h.get? a=some (u0z ys n)∧u0j sy h xs ys:=by
 refine u7n r fun a ys n e _ g q=>?_;exact⟨a,ys,n,e,g,q⟩
theorem VRel.tup_ban {xs:List MV} {a:Addr} (r:VRel sy h (.tup xs) (.ref a)):¬sy.ban a:=by
 refine u7n r fun a ys n e b g q=>?_;cases e;exact b
theorem VRel.ref_inv {a:Addr} {v:Value} (r:VRel sy h (.ref a) v):v=.ref a:=r
theorem VRel.con_inv {c:Value} {v:Value} (r:VRel sy h (.con c) v):v=c∧handedIn c=true:=r
theorem VRel.mk_none:VRel sy h .none .none:=rfl
theorem VRel.mk_bool (b:Bool):VRel sy h (.bool b) (.bool b):=rfl
theorem VRel.mk_int (i:Int) (t:Tok):VRel sy h (.int i) (.int i t):=⟨t,rfl⟩
theorem VRel.mk_sym {n:Nat} {x:Str} (t:Tok) (e:sy.l[n]?=some x):VRel sy h (.sym n) (.str x t):=⟨x,t,e,rfl⟩
theorem VRel.mk_txt (x:Str) (t:Tok):VRel sy h (.txt x) (.str x t):=⟨t,rfl⟩
theorem VRel.mk_ref (a:Addr):VRel sy h (.ref a) (.ref a):=rfl
theorem VRel.mk_con {c:Value} (e:handedIn c=true):VRel sy h (.con c) c:=⟨rfl,e⟩
theorem VRel.mk_tup {xs:List MV} {a:Addr} {ys:List Value} {n:Nat} (b:¬sy.ban a) (g:h.get? a=some (u0z ys n)) (r:u0j sy h xs ys):VRel sy h (.tup xs) (.ref a):=⟨a,ys,n,rfl,b,g,r⟩
theorem u0j.length {ms:List MV} {vs:List Value} (r:u0j sy h ms vs):vs.length=ms.length:=by
 induction ms generalizing vs with
 |nil=>rw [r.nil_inv];rfl
 |cons m ms ih=>exact u1c r.cons_inv fun _ _ z _ q=>z▸congrArg (· +1) (ih q)
theorem u0j.append {ms ms':List MV} {vs vs':List Value} (r:u0j sy h ms vs) (q:u0j sy h ms' vs'):u0j sy h (ms++ms') (vs++vs'):=by
 induction ms generalizing vs with
 |nil=>rw [r.nil_inv];exact q
 |cons m ms ih=>exact u1c r.cons_inv fun _ _ z p r'=>z▸ .cons p (ih r')
theorem u0j.get {ms:List MV} {vs:List Value} {k:Nat} {m:MV} (r:u0j sy h ms vs) (e:ms[k]?=some m):∃v,vs[k]?=some v∧VRel sy h m v:=by
 induction ms generalizing vs k with
 |nil=>cases e
 |cons x ms ih=>
  refine u1c r.cons_inv fun v vs' z p q=>?_
  subst z
  cases k with
  |zero=>exact⟨v,rfl,Option.some.inj e▸p⟩
  |succ k=>exact ih (vs:=vs') (k:=k) q e
theorem u0j.set {ms:List MV} {vs:List Value} {m:MV} {v:Value} (k:Nat) (r:u0j sy h ms vs) (p:VRel sy h m v):u0j sy h (ms.set k m) (vs.set k v):=by
 induction ms generalizing vs k with
 |nil=>rw [r.nil_inv];exact .nil
 |cons x ms ih=>
  refine u1c r.cons_inv fun v vs' z p' q=>?_
  subst z
  cases k with
  |zero=>exact .cons p q
  |succ k=>exact .cons p' (ih k q)
theorem u0j.take {ms:List MV} {vs:List Value} (k:Nat) (r:u0j sy h ms vs):u0j sy h (ms.take k) (vs.take k):=by
 induction ms generalizing vs k with
 |nil=>rw [r.nil_inv,List.take_nil,List.take_nil];exact .nil
 |cons x ms ih=>
  refine u1c r.cons_inv fun v vs' z p q=>?_
  subst z
  cases k with
  |zero=>exact .nil
  |succ k=>exact .cons p (ih k q)
theorem u0j.drop {ms:List MV} {vs:List Value} (k:Nat) (r:u0j sy h ms vs):u0j sy h (ms.drop k) (vs.drop k):=by
 induction ms generalizing vs k with
 |nil=>rw [r.nil_inv,List.drop_nil,List.drop_nil];exact .nil
 |cons x ms ih=>cases k with
  |zero=>exact r
  |succ k=>
   refine u1c r.cons_inv fun v vs' z p q=>?_
   subst z
   exact ih k q
theorem u0j.reverse {ms:List MV} {vs:List Value} (r:u0j sy h ms vs):u0j sy h ms.reverse vs.reverse:=by
 induction ms generalizing vs with
 |nil=>rw [r.nil_inv];exact .nil
 |cons x ms ih=>
  refine u1c r.cons_inv fun v vs' z p q=>?_
  subst z
  rw [List.reverse_cons,List.reverse_cons]
  exact(ih q).append (.cons p .nil)
theorem u0j.replicate {ms:List MV} {vs:List Value} (r:u0j sy h ms vs) (k:Nat):u0j sy h (List.replicate k ms).flatten (List.replicate k vs).flatten:=by
 induction k with
 |zero=>exact .nil
 |succ k ih=>
  rw [List.replicate_succ,List.replicate_succ,List.flatten_cons,List.flatten_cons]
  exact r.append ih
theorem u0j.snoc_inv {ms:List MV} {vs:List Value} {m:MV} (r:u0j sy h (ms++[m]) vs):∃vs' v,vs=vs'++[v]∧u0j sy h ms vs'∧VRel sy h m v:=by
 induction ms generalizing vs with
 |nil=>exact u1c r.cons_inv fun v r' z p q=>⟨[],v,z.trans (congrArg (v:: ·) q.nil_inv),.nil,p⟩
 |cons x ms ih=>exact u1c r.cons_inv fun v r' z p q=>u1c (ih q) fun vs' u z' q' p'=>⟨v::vs',u,z.trans (congrArg (v:: ·) z'),.cons p q',p'⟩
end
noncomputable def u5s (K:Frag) (v:Value):Bool:=keepIn K v||match v with
 |.builtin _=>true
 |.type _=>true
 |_=>false
structure Cx (T:Tab) where
 prog:Program
 w:World
 K:Frag
 base:Heap
 p:Program
 loose:List Str
 mg:Str→Option Value
 mb:Str→Option Value
 os:OsState
 g:Array GenState
 d:Drawn
 ban:Addr→Prop
 hK:K.In base
 hT:TopRead p loose mg mb base
 nodup:T.sym.Nodup
 short:∀x ∈ T.sym,x.length≤1000∧PyData.strOk x=true
 s0:T.sym[0]?=some (Str.ofString "append")
 s1:T.sym[1]?=some (Str.ofString "pop")
 s2:T.sym[2]?=some (Str.ofString "reverse")
 s3:T.sym[3]?=some (Str.ofString "get")
 subs:∀C D b,T.subs.lookup (C,D)=some b→exmOne K (.ref C) (.ref D)=some b
 plain:∀C n,T.okAttr C n=true→∃x,T.sym[n]?=some x∧plainGet K C x=true∧hasDictIn K C=true∧(∃q,findIn K (.ref C) x=some q∧noGet K q=true)∧
  findIn K (.ref C) "__setattr__" =some (some (.builtin "object.__setattr__"))∧takerIn K C x=some none∧plainOver K C=true
 meths:∀C n f,T.meths.lookup (C,n)=some f→∃x,T.sym[n]?=some x∧plainGet K C x=true∧findIn K (.ref C) x=some (some (.ref f))∧isFn K (.ref f)=true∧keepIn K (.ref f)=true
 clsAttrs:∀C n f,T.clsAttrs.lookup (C,n)=some f→∃x,T.sym[n]?=some x∧specialIn K (.ref C) "__getattribute__" =some (some (.builtin "type.__getattribute__"))∧readsIn K C (.type "type")=true∧
  findCls K (.ref C) (.type "type") x=some (.val (.ref f))∧keepIn K (.ref f)=true
 excs:∀C n,T.okExc C n=true→∃x cd,T.sym[n]?=some x∧clsIn K C=some cd∧cd.hasDict=true∧mroIn K C (.type "object")=some true∧(∀self,refuseLoop self "__setattr__" cd.mro=pure ())∧
  findIn K (.ref C) "__setattr__" =some (some (.builtin "object.__setattr__"))∧takerIn K C x=some none∧findIn K (.ref C) "__getattribute__" =some (some (.builtin "BaseException.__getattribute__"))∧
  findIn K (.ref C) x=some none∧subIn K (.ref C) (.type "BaseException")=some true∧∃q,findIn K (.ref C) "__getattr__" =some q
section
variable {T:Tab} (cx:Cx T)
noncomputable abbrev Cx.sy:Sy:=⟨T.sym,cx.ban⟩
noncomputable def Cx.wb (bn:Addr→Prop):Cx T:={cx with ban:=bn}
noncomputable def Cx.mk' (h:Heap) (t:Nat):Shared:=⟨h,cx.g,cx.d,t,cx.os⟩
noncomputable def FRel (h:Heap):List (Nat×MV)→List DictEntry→Prop
 |[],es=>es=[]
 |(n,m)::fs,es=>∃e r x t,es=e::r∧T.sym[n]?=some x∧e.key=.str x t∧e.hash=PyData.keyHash cx.w.params x∧VRel cx.sy h m e.val∧FRel h fs r
noncomputable def KvI (sy:Sy) (h:Heap):List (Int×MV)→List (Int×Value)→Prop
 |[],l=>l=[]
 |(k,m)::r,l=>∃v l',l=(k,v)::l'∧VRel sy h m v∧KvI sy h r l'
noncomputable def KvS (sy:Sy) (h:Heap):List (Nat×MV)→List (Str×Value)→Prop
 |[],l=>l=[]
 |(n,m)::r,l=>∃x v l',sy.l[n]?=some x∧l=(x,v)::l'∧VRel sy h m v∧KvS sy h r l'
noncomputable def y9v (own:Addr→Option Addr) (h:Heap) (a:Addr) (vs:Array Value):Prop:=
 (vs[1]?=some .none∧∀t o,own t=some a→h.get? t=some o→o.cls≠ .type "traceback")∨
  ∃t ot ts,vs[1]?=some (.ref t)∧own t=some a∧t≠a∧h.get? t=some ot∧ot.data=.fields ts∧3<ts.size∧ot.cls=.type "traceback"
noncomputable def ORel (own:Addr→Option Addr) (h:Heap) (a:Addr):MObj→Prop
 |.list xs=>∃ys n,h.get? a=some (listOf ys.toArray n)∧u0j cx.sy h xs ys
 |.dI kvs=>(a==sysModules)=false∧∃l,h.DictOf (intKind cx.prog cx.w) a l∧KvI cx.sy h kvs l
 |.dS kvs=>∃l,h.DictOf (strKind cx.prog cx.w) a l∧KvS cx.sy h kvs l
 |.inst C fs=>∃dx es n,h.get? a=some (instObj C dx)∧own dx=some a∧dx≠a∧h.get? dx=some (dictOf es n)∧FRel cx h fs es
 |.exc C fs=>∃od vs sl,h.get? a=some ⟨.ref C,od,.fields vs,sl⟩∧y9v own h a vs∧
   ((od=none∧fs=[])∨∃dx es n,od=some dx∧own dx=some a∧dx≠a∧h.get? dx=some (dictOf es n)∧FRel cx h fs es)
 |.frz ns=>∃vs,cx.base.IsList a vs.toArray∧IntsAre vs ns
noncomputable def u0o (fs:List Env) (a:Addr):Prop:=∃e ∈ fs,e.frame=some a
structure Inv (fs:List Env) (own:Addr→Option Addr) (σ:Hp) (h:Heap):Prop where
 base:∀b o,cx.base.get? b=some o→h.get? b=some o
 ownd:∀a x,own a=some x→cx.base.get? a=none∧∃o,h.get? a=some o∧o.cls≠ .type "tuple"
 ownr:∀a x,own a=some x→own x=some x
 objs':∀a o,σ a=some o→(own a=some a∨o.isFrz=true)∧ORel cx own h a o
 frames:∀e ∈ fs,∃L o es n,e.frame=some L∧cx.base.get? L=none∧own L=none∧h.get? L=some o∧o.data=.dict es n∧e.scope.kind≠ .module
 bans:∀a,cx.ban a→∃ys n,h.get? a=some (u0z ys n)
structure Keep (fs:List Env) (own:Addr→Option Addr) (X:Addr→Prop) (h h':Heap):Prop where
 live:∀a o,h.get? a=some o→∃o',h'.get? a=some o'
 same:∀a o,h.get? a=some o→own a=none→¬X a→h'.get? a=some o∨(u0o fs a∧∃sl,h'.get? a=some {o with slots:=sl})
 kls:∀a o x,own a=some x→¬X a→h.get? a=some o→∃o',h'.get? a=some o'∧o'.cls=o.cls
structure OwnExt (own own':Addr→Option Addr) (h:Heap):Prop where
 up:∀a x,own a=some x→own' a=some x
 new:∀a x,own' a=some x→own a=some x∨(own a=none∧h.get? a=none)
noncomputable def noX:Addr→Prop:=fun _=>False
theorem OwnExt.refl (own:Addr→Option Addr) (h:Heap):OwnExt own own h:=⟨fun _ _ e=>e,fun _ _ e=>.inl e⟩
theorem Keep.refl (fs:List Env) (own:Addr→Option Addr) (X:Addr→Prop) (h:Heap):Keep fs own X h h:=⟨fun _ o e=>⟨o,e⟩,fun _ _ e _ _=>.inl e,fun _ o _ _ _ e=>⟨o,e,rfl⟩⟩
theorem OwnExt.old {own own':Addr→Option Addr} {h:Heap} (x:OwnExt own own' h) {a:Addr} {o:Obj} (e:h.get? a=some o) (n:own a=none):own' a=none:=by
 cases q:own' a with
 |none=>rfl
 |some y=>
  refine Or.elim (x.2 a y q) (fun z=>?_) (fun zz503=>?_)
  ·rw [n]at z;cases z
  ·obtain⟨_,z⟩:=zz503
   rw [e]at z;cases z
theorem OwnExt.trans {fs:List Env} {own own1 own2:Addr→Option Addr} {h h1:Heap} {X:Addr→Prop}
  (x:OwnExt own own1 h) (k:Keep fs own X h h1) (y:OwnExt own1 own2 h1):OwnExt own own2 h:=by
 refine⟨fun a z e=>y.1 a z (x.1 a z e),fun a z e=>?_⟩
 refine Or.elim (y.2 a z e) (fun q=>?_) (fun zz504=>?_)
 ·exact x.2 a z q
 ·obtain⟨q1,q2⟩:=zz504
  refine .inr ⟨?_,?_⟩
  ·cases q:own a with
   |none=>rfl
   |some u=>rw [x.1 a u q]at q1;cases q1
  ·cases q:h.get? a with
   |none=>rfl
   |some o=>
    refine u0i (k.live a o q) fun o' z'=>?_
    rw [z']at q2;cases q2
theorem Keep.trans {fs:List Env} {own own1:Addr→Option Addr} {h h1 h2:Heap} {X:Addr→Prop} (x:OwnExt own own1 h) (k:Keep fs own X h h1) (l:Keep fs own1 X h1 h2):Keep fs own X h h2:=by
 refine⟨fun a o e=>?_,fun a o e n hx=>?_,fun a o y e nx g=>?_⟩
 ·refine u0i (k.live a o e) fun o' e'=>?_
  exact l.live a o' e'
 have n1:=x.old e n
 rcases k.same a o e n hx with z|⟨fa,sl,z⟩
 ·exact l.same a o z n1 hx
 ·refine Or.elim (l.same a _ z n1 hx) (fun z'=>?_) (fun zz505=>?_)
  ·exact .inr ⟨fa,sl,z'⟩
  ·obtain⟨_,sl',z'⟩:=zz505
   exact .inr ⟨fa,sl',z'⟩
 ·refine u0d (k.kls a o y e nx g) fun o1 g1 c1=>?_
  refine u0d (l.kls a o1 y (x.up a y e) nx g1) fun o2 g2 c2=>?_
  exact⟨o2,g2,c2.trans c1⟩
theorem Keep.mono {fs:List Env} {own:Addr→Option Addr} {h h':Heap} {X Y:Addr→Prop} (k:Keep fs own X h h') (s:∀a,X a→Y a):Keep fs own Y h h':=
 ⟨k.live,fun a o e n hy=>k.same a o e n fun hx=>hy (s a hx),fun a o y e ny g=>k.kls a o y e (fun hx=>ny (s a hx)) g⟩
theorem Keep.data {fs:List Env} {own:Addr→Option Addr} {h h':Heap} {X:Addr→Prop} (k:Keep fs own X h h') {a:Addr} {o:Obj} (e:h.get? a=some o) (n:own a=none) (hx:¬X a):
  ∃o',h'.get? a=some o'∧o'.data=o.data∧o'.cls=o.cls:=by
 refine Or.elim (k.same a o e n hx) (fun z=>?_) (fun zz506=>?_)
 ·exact⟨o,z,rfl,rfl⟩
 ·obtain⟨_,sl,z⟩:=zz506
  exact⟨_,z,rfl,rfl⟩
theorem Keep.ns {fs:List Env} {own:Addr→Option Addr} {h h':Heap} {X:Addr→Prop} (k:Keep fs own X h h') {a:Addr} {m:Str→Option Value} (e:h.Ns a m) (n:own a=none) (hx:¬X a):h'.Ns a m:=by
 refine u7n e fun o es ep ho hd hk hf=>?_
 refine u1e (k.data ho n hx) fun o' e' d' _=>?_
 exact⟨o',es,ep,e',d'.trans hd,hk,hf⟩
section
variable {cx:Cx T} {fs:List Env} {own own':Addr→Option Addr} {σ σ':Hp} {h h':Heap} {X:Addr→Prop}
theorem Inv.objs (I:Inv cx fs own σ h) (a:Addr) (o:MObj) (e:σ a=some o) (nf:o.isFrz=false:=by rfl):own a=some a∧ORel cx own h a o:=by
 refine u0a (I.objs' a o e) fun x y=>?_
 refine Or.elim x (fun x=>?_) (fun x=>?_)
 ·exact⟨x,y⟩
 ·rw [nf]at x;cases x
theorem Inv.frz (I:Inv cx fs own σ h) {a:Addr} {ns:List Int} (e:σ a=some (.frz ns)):∃vs,h.IsList a vs.toArray∧IntsAre vs ns:=by
 refine u0a (I.objs' a _ e) fun _ zz13=>?_
 refine u0d zz13 fun vs zz501 r=>?_
 obtain⟨o,g,c⟩:=zz501
 exact⟨vs,⟨o,I.base _ _ g,c⟩,r⟩
theorem Inv.notOwn (I:Inv cx fs own σ h) {a:Addr} {ys:List Value} {n:Nat} (e:h.get? a=some (u0z ys n)):own a=none:=by
 cases q:own a with
 |none=>rfl
 |some x=>
  refine u0a (I.ownd a x q) fun _ zz14=>?_
  refine u0d zz14 fun o' e' n=>?_
  rw [e]at e';cases e';exact absurd rfl n
theorem Inv.notFrame (I:Inv cx fs own σ h) {a:Addr} {ys:List Value} {n:Nat} (e:h.get? a=some (u0z ys n)):¬u0o fs a:=by
 rintro ⟨ev,hm,hf⟩
 refine u2o (I.frames ev hm) fun L o' es n f1 _ _ f4 f5 _=>?_
 rw [hf]at f1;cases f1
 rw [e]at f4;cases f4;cases f5
theorem Inv.tk (I:Inv cx fs own σ h) (k:Keep fs own X h h') (hX:∀a ys n,¬cx.ban a→X a→h.get? a≠some (u0z ys n)):TK cx.sy h h':=by
 intro a ys n b e
 refine Or.elim (k.same a _ e (I.notOwn e) (fun x=>hX a ys n b x e)) (fun z=>?_) (fun zz507=>?_)
 ·exact z
 ·obtain⟨z,_⟩:=zz507
  exact absurd z (I.notFrame e)
theorem Inv.tk0 (I:Inv cx fs own σ h) (k:Keep fs own noX h h'):TK cx.sy h h':=I.tk k fun _ _ _ _ x=>x.elim
theorem Inv.free (I:Inv cx fs own σ h) {a:Addr} (e:h.get? a=none):¬cx.ban a:=fun b=>by
 refine u1j (I.bans a b) fun ys n z=>?_
 rw [e]at z;cases z
theorem Inv.noOwner (I:Inv cx fs own σ h) {a:Addr} (e:h.get? a=none) (b:Addr):own b≠some a:=fun q=>by
 refine u0a (I.ownd a a (I.ownr b a q)) fun _ zz15=>?_
 refine u0d zz15 fun o e' _=>?_
 rw [e]at e';cases e'
theorem Inv.K (I:Inv cx fs own σ h):cx.K.In h:=cx.hK.keeps I.base
theorem Inv.top (I:Inv cx fs own σ h):TopRead cx.p cx.loose cx.mg cx.mb h:=cx.hT.keeps I.base
theorem Inv.fresh (I:Inv cx fs own σ h) {a:Addr} (e:h.get? a=none):σ a=none∧own a=none:=by
 have n:own a=none:=by
  cases q:own a with
  |none=>rfl
  |some x=>refine u0a (I.ownd a x q) fun _ zz16=>?_;refine u0d zz16 fun o e' _=>?_;rw [e]at e';cases e'
 refine⟨?_,n⟩
 cases q:σ a with
 |none=>rfl
 |some o=>
  refine u0a (I.objs' a o q) fun x y=>?_
  rw [n]at x
  have x:=x.resolve_left (by intro z;cases z)
  cases o with
  |frz ns=>
   refine u0d y fun vs zz17 _=>?_
   refine u0d zz17 fun o g _=>?_
   rw [I.base _ _ g]at e;cases e
  |_=>exact(Bool.false_ne_true x).elim
end
section
variable {sy:Sy} {h h':Heap}
theorem KvI.map {sy sy':Sy} (f:∀{m:MV} {v:Value},VRel sy h m v→VRel sy' h' m v) {kvs:List (Int×MV)} {l:List (Int×Value)} (r:KvI sy h kvs l):KvI sy' h' kvs l:=by
 induction kvs generalizing l with
 |nil=>exact r
 |cons x kvs ih=>exact u1c r fun v l' e p q=>⟨v,l',e,f p,ih q⟩
theorem KvS.map {sy sy':Sy} (f:∀{m:MV} {v:Value},VRel sy h m v→VRel sy' h' m v) (hl:sy'.l=sy.l) {kvs:List (Nat×MV)} {l:List (Str×Value)} (r:KvS sy h kvs l):KvS sy' h' kvs l:=by
 induction kvs generalizing l with
 |nil=>exact r
 |cons x kvs ih=>exact u7n r fun x v l' e0 e p q=>⟨x,v,l',hl▸e0,e,f p,ih q⟩
theorem KvI.tk (k:TK sy h h') {kvs:List (Int×MV)} {l:List (Int×Value)} (r:KvI sy h kvs l):KvI sy h' kvs l:=r.map fun p=>p.tk k
theorem KvS.tk (k:TK sy h h') {kvs:List (Nat×MV)} {l:List (Str×Value)} (r:KvS sy h kvs l):KvS sy h' kvs l:=r.map (fun p=>p.tk k) rfl
end
section
variable {cx:Cx T} {fs:List Env} {own own':Addr→Option Addr} {σ σ':Hp} {h h':Heap} {X:Addr→Prop}
theorem FRel.map {cx':Cx T} (f:∀{m:MV} {v:Value},VRel cx.sy h m v→VRel cx'.sy h' m v) (hw:cx'.w=cx.w) {l:List (Nat×MV)} {es:List DictEntry} (r:FRel cx h l es):FRel cx' h' l es:=by
 induction l generalizing es with
 |nil=>exact r
 |cons x l ih=>exact u2o r fun e r x t e1 e2 e3 e4 p q=>⟨e,r,x,t,e1,e2,e3,hw▸e4,f p,ih q⟩
theorem FRel.tk (k:TK cx.sy h h') {l:List (Nat×MV)} {es:List DictEntry} (r:FRel cx h l es):FRel cx h' l es:=r.map (fun p=>p.tk k) rfl
theorem ORel.keep {a:Addr} (k:TK cx.sy h h') (up:∀b x,own b=some x→own' b=some x) (dn:∀b,own' b=some a→own b=some a) (ex:∀b,own b=some a→∃o,h.get? b=some o) (hs:∀b o,own b=some a→h.get? b=some o→h'.get? b=some o) (ha:own a=some a) {mo:MObj} (r:ORel cx own h a mo):ORel cx own' h' a mo:=by
 cases mo with
 |list xs=>refine u1m r fun ys n e r=>?_;exact⟨ys,n,hs a _ ha e,r.tk k⟩
 |dI kvs=>refine u0a r fun ns zz18=>?_;refine u0d zz18 fun l zz502 q=>?_;obtain⟨o,es,ep,e,r⟩:=zz502;exact⟨ns,l,⟨o,es,ep,hs a _ ha e,r⟩,q.tk k⟩
 |dS kvs=>refine u0d r fun l zz19 q=>?_;refine u7o zz19 fun o es ep e r=>?_;exact⟨l,⟨o,es,ep,hs a _ ha e,r⟩,q.tk k⟩
 |inst C fs'=>refine v2p r fun dx es n e od ne ed r=>?_;exact⟨dx,es,n,hs a _ ha e,up _ _ od,ne,hs dx _ od ed,r.tk k⟩
 |frz ns=>exact r
 |exc C fs'=>
  refine u1b r fun od vs sl e tb r=>?_
  refine⟨od,vs,sl,hs a _ ha e,?_,?_⟩
  ·refine Or.elim tb (fun zz508=>?_) (fun zz509=>?_)
   ·obtain⟨tb,tn⟩:=zz508
    refine .inl ⟨tb,fun t o q g=>?_⟩
    refine u0i (ex t (dn t q)) fun o' g'=>?_
    have:=hs t o' (dn t q) g'
    rw [g]at this;cases this
    exact tn t o (dn t q) g'
   ·obtain⟨t,ot,ts,e1,e2,e3,e4,e5,e6⟩:=zz509
    exact .inr ⟨t,ot,ts,e1,up _ _ e2,e3,hs t _ e2 e4,e5,e6⟩
  ·refine Or.elim r (fun r=>?_) (fun zz510=>?_)
   ·exact .inl r
   ·obtain⟨dx,es,n,e1,e2,e3,e4,r⟩:=zz510
    exact .inr ⟨dx,es,n,e1,up _ _ e2,e3,hs dx _ e2 e4,r.tk k⟩
theorem Inv.objK' (I:Inv cx fs own σ h) {cy:Cx T} {a:Addr} {o:MObj} (x:own a=some a∨o.isFrz=true) (y:ORel cy own h a o) (k:TK cy.sy h h') (up:∀b x,own b=some x→own' b=some x) (dn:∀b,own' b=some a→own b=some a) (hs:∀b o,own b=some a→h.get? b=some o→h'.get? b=some o):
  (own' a=some a∨o.isFrz=true)∧ORel cy own' h' a o:=by
 cases f:o.isFrz with
 |true=>
  refine⟨.inr rfl,?_⟩
  cases o with
  |frz ns=>exact y
  |_=>exact(Bool.false_ne_true f).elim
 |false=>
  rw [f]at x
  have x:=x.resolve_right Bool.false_ne_true
  refine⟨.inl (up _ _ x),y.keep k up dn (fun c e=>?_) hs x⟩
  refine u0a (I.ownd c a e) fun _ zz20=>?_
  refine u0d zz20 fun oc g _=>?_
  exact⟨oc,g⟩
theorem Inv.objK (I:Inv cx fs own σ h) {a:Addr} {o:MObj} (e:σ a=some o) (k:TK cx.sy h h') (up:∀b x,own b=some x→own' b=some x) (dn:∀b,own' b=some a→own b=some a) (hs:∀b o,own b=some a→h.get? b=some o→h'.get? b=some o):
  (own' a=some a∨o.isFrz=true)∧ORel cx own' h' a o:=I.objK' (I.objs' a o e).1 (I.objs' a o e).2 k up dn hs
theorem Inv.upd (I:Inv cx fs own σ h) {a:Addr} {mo:MObj} (x:OwnExt own own' h) (hnew:∀b y,own' b=some y→own b=some y∨y=a)
  (hk:∀b o,h.get? b=some o→own b≠some a→h'.get? b=some o)
  (ha:∀b,own' b=some a→cx.base.get? b=none∧∃o,h'.get? b=some o∧o.cls≠ .type "tuple") (hc:∀b o,own b=some a→h.get? b=some o→∃o',h'.get? b=some o'∧o'.cls=o.cls) (hown:own' a=some a) (ho:TK cx.sy h h'→ORel cx own' h' a mo):
  Inv cx fs own' (σ.put a mo) h'∧Keep fs own noX h h':=by
 have hkeep:Keep fs own noX h h':=by
  refine⟨fun b o e=>?_,fun b o e n _=>.inl (hk b o e (by rw [n];intro q;cases q)),fun b o y e _ g=>?_⟩
  by_cases q:own b=some a
  ·refine u0a (ha b (x.up b a q)) fun _ zz21=>?_
   refine u0d zz21 fun o' e' _=>?_
   exact⟨o',e'⟩
  ·exact⟨o,hk b o e q⟩
  ·by_cases q:y=a
   ·subst q;exact hc b o e g
   ·exact⟨o,hk b o g (by rw [e];exact fun u=>q (Option.some.inj u)),rfl⟩
 have tk:=I.tk0 hkeep
 refine⟨⟨fun b o e=>?_,fun b y e=>?_,fun b y e=>?_,fun b o e=>?_,fun ev hm=>?_,fun a b=>?_⟩,hkeep⟩
 ·refine hk b o (I.base b o e) fun q=>?_
  rw [(I.ownd b a q).1]at e;cases e
 ·by_cases q:y=a
  ·subst q;exact ha b e
  ·refine Or.elim (hnew b y e) (fun z=>?_) (fun z=>?_)
   ·refine u0a (I.ownd b y z) fun z1 zz22=>?_
    refine u0d zz22 fun o z2 z3=>?_
    exact⟨z1,o,hk b o z2 (by rw [z];exact fun u=>q (Option.some.inj u)),z3⟩
   ·exact absurd z q
 ·refine Or.elim (hnew b y e) (fun z=>?_) (fun z=>?_)
  ·exact x.up _ _ (I.ownr b y z)
  ·rw [z];exact hown
 ·unfold Hp.put at e
  by_cases q:b=a
  ·subst q
   rw [if_pos rfl]at e
   cases e
   exact⟨.inl hown,ho tk⟩
  ·rw [if_neg q]at e
   exact I.objK e tk x.up (fun c e=>(hnew c b e).resolve_right q) fun c oc e1 e2=>hk c oc e2 (by rw [e1];exact fun u=>q (Option.some.inj u))
 ·refine u2o (I.frames ev hm) fun L o es n f1 f2 f3 f4 f5 f7=>?_
  have f3':=x.old f4 f3
  exact⟨L,o,es,n,f1,f2,f3',hk L o f4 (by rw [f3];intro u;cases u),f5,f7⟩
 ·refine u1j (I.bans a b) fun ys n e=>?_;exact⟨ys,n,hk a _ e (by rw [I.notOwn e];intro z;cases z)⟩
theorem Inv.store (I:Inv cx fs own σ h) {a:Addr} {mo mo':MObj} (e:σ a=some mo) (hk:∀b o,h.get? b=some o→own b≠some a→h'.get? b=some o)
  (ha:∀b o,own b=some a→h.get? b=some o→∃o',h'.get? b=some o'∧o'.cls=o.cls) (ho:TK cx.sy h h'→ORel cx own h' a mo') (nf:mo.isFrz=false:=by rfl):Inv cx fs own (σ.put a mo') h'∧Keep fs own noX h h':=
 I.upd (.refl ..) (fun _ _ q=>.inl q) hk (fun b q=>⟨(I.ownd b a q).1,let ⟨_,o,g,c⟩:=I.ownd b a q;let ⟨o',g',c'⟩:=ha b o q g;⟨o',g',by rw [c'];exact c⟩⟩) ha (I.objs a mo e nf).1 ho
noncomputable def u1k (own:Addr→Option Addr) (a:Addr):Addr→Option Addr:=fun b=>if b=a then some a else own b
noncomputable def u7f (own:Addr→Option Addr) (a d:Addr):Addr→Option Addr:=fun b=>if b=a∨b=d then some a else own b
theorem Inv.alloc (I:Inv cx fs own σ h) {a:Addr} {mo:MObj} {o:Obj} (e:h.get? a=none) (hb:cx.base.get? a=none) (hk:∀b o,h.get? b=some o→h'.get? b=some o) (hn:h'.get? a=some o) (c:o.cls≠ .type "tuple")
  (ho:TK cx.sy h h'→ORel cx (u1k own a) h' a mo):Inv cx fs (u1k own a) (σ.put a mo) h'∧Keep fs own noX h h'∧OwnExt own (u1k own a) h:=by
 refine u0a (I.fresh e) fun _ n=>?_
 have x:OwnExt own (u1k own a) h:=by
  refine⟨fun b y q=>?_,fun b y q=>?_⟩
  ·unfold u1k
   by_cases z:b=a
   ·subst z;rw [n]at q;cases q
   ·rw [if_neg z];exact q
  ·unfold u1k at q
   by_cases z:b=a
   ·subst z;exact .inr ⟨n,e⟩
   ·rw [if_neg z]at q;exact .inl q
 have none_a:∀b,own b≠some a:=I.noOwner e
 obtain⟨I',k⟩:=I.upd (h':=h') (mo:=mo) x (fun b y q=>by
   unfold u1k at q
   by_cases z:b=a
   ·rw [if_pos z]at q;exact .inr (Option.some.inj q).symm
   ·rw [if_neg z]at q;exact .inl q) (fun b o e _=>hk b o e) (fun b q=>by
   unfold u1k at q
   by_cases z:b=a
   ·subst z;exact⟨hb,o,hn,c⟩
   ·rw [if_neg z]at q;exact absurd q (none_a b)) (fun b o q=>absurd q (none_a b)) (by unfold u1k;rw [if_pos rfl]) ho
 exact⟨I',k,x⟩
end
end
end Mine
end
section
open PySem PySem.W PyProof.Rows
set_option maxRecDepth 20000
namespace Mine
structure ACtx (A:Around) (fs:List Env) (r:Nat):Prop where
 hd:r≠0→A.handled=none
 depth:A.depth+3*r≤900
 frames:A.frames=some fs
 units:A.units+12*r≤9800
section
variable {T:Tab} (cx:Cx T)
inductive Pst {α:Type} (fs:List Env) (X:Addr→Prop) (own:Addr→Option Addr) (h:Heap) (P:α→Hp→Heap→Prop) (v:α) (s':Shared):Prop where
 |mk (h':Heap) (t':Nat) (own':Addr→Option Addr) (σ':Hp) (e:s'=cx.mk' h' t') (I:Inv cx fs own' σ' h') (x:OwnExt own own' h) (k:Keep fs own X h h') (p:P v σ' h')
inductive VQ (Q:MV→Hp→Prop) (v:Value) (σ:Hp) (h:Heap):Prop where
 |mk (m:MV) (r:VRel cx.sy h m v) (q:Q m σ)
inductive VsQ (Q:List MV→Hp→Prop) (v:List Value) (σ:Hp) (h:Heap):Prop where
 |mk (m:List MV) (r:u0j cx.sy h m v) (q:Q m σ)
noncomputable def UQ {α:Type} (Q:Hp→Prop) (_:α) (σ:Hp) (_:Heap):Prop:=Q σ
noncomputable def BQ (Q:Bool→Hp→Prop) (b:Bool) (σ:Hp) (_:Heap):Prop:=Q b σ
inductive EQ (E:MV→Hp→Prop) (e:Value) (σ:Hp) (h:Heap):Prop where
 |mk (a C:Addr) (fs:List (Nat×MV)) (ea:e=.ref a) (hs:σ a=some (.exc C fs)) (q:E (.ref a) σ)
noncomputable def x1c (r:Nat) (f:Value) (args:List MV) (σ:Hp) (Q E:MV→Hp→Prop):Prop:=
 ∀(A:Around) (fs:List Env) (own:Addr→Option Addr) (h:Heap) (t:Nat) (vs:List Value),ACtx A fs r→Inv cx fs own σ h→u0j cx.sy h args vs→
  wpAny (model cx.prog cx.w) A (call f vs) (Pst cx fs noX own h (VQ cx Q)) (Pst cx fs noX own h (EQ E)) (cx.mk' h t)
noncomputable def u0p (r:Nat) (f:Value) (args:List MV) (σ:Hp) (Q E:MV→Hp→Prop):Prop:=∀bn,x1c (cx.wb bn) r f args σ Q E
end
section
variable {T:Tab} {cx:Cx T} {α:Type} {fs:List Env} {X:Addr→Prop} {own own1:Addr→Option Addr} {σ:Hp} {h h1:Heap} {P:α→Hp→Heap→Prop} {v:α} {s':Shared} {A:Around} {t:Nat}
theorem u0p.at {r:Nat} {f:Value} {args:List MV} {Q E:MV→Hp→Prop} (c:u0p cx r f args σ Q E):x1c cx r f args σ Q E:=c cx.ban
theorem Pst.up (x:OwnExt own own1 h) (k:Keep fs own X h h1) (p:Pst cx fs X own1 h1 P v s'):Pst cx fs X own h P v s':=by
 obtain⟨h',t',own',σ',e,I,x',k',q⟩:=p
 exact⟨h',t',own',σ',e,I,x.trans k x',k.trans x k',q⟩
theorem Pst.wide {Y:Addr→Prop} (s:∀a,X a→Y a) (p:Pst cx fs X own h P v s'):Pst cx fs Y own h P v s':=by
 obtain⟨h',t',own',σ',e,I,x',k',q⟩:=p
 exact⟨h',t',own',σ',e,I,x',k'.mono s,q⟩
theorem Pst.imp {P':α→Hp→Heap→Prop} (f:∀v σ h,P v σ h→P' v σ h) (p:Pst cx fs X own h P v s'):Pst cx fs X own h P' v s':=by
 obtain⟨h',t',own',σ',e,I,x',k',q⟩:=p
 exact⟨h',t',own',σ',e,I,x',k',f _ _ _ q⟩
theorem Pst.here (I:Inv cx fs own σ h) (q:P v σ h):Pst cx fs X own h P v (cx.mk' h t):=⟨h,t,own,σ,rfl,I,.refl ..,.refl ..,q⟩
theorem u0e {M:Model} {c:Sem α} {Q:α→Shared→Prop} {E E':Value→Shared→Prop} {s:Shared} (w:wpAny M A c (Pst cx fs X own h P) E' s)
  (hE:∀e s,E' e s→E e s)
  (f:∀v own1 σ1 h1 t1,Inv cx fs own1 σ1 h1→OwnExt own own1 h→Keep fs own X h h1→P v σ1 h1→Q v (cx.mk' h1 t1)):wpAny M A c Q E s:=
 wpAny_mono w (fun v s' p=>by
  obtain⟨h',t',own',σ',e,I,x',k',q⟩:=p
  rw [e];exact f v own' σ' h' t' I x' k' q) hE
end
section
variable {T:Tab} {cx:Cx T} {fs:List Env} {own:Addr→Option Addr} {σ:Hp} {h:Heap} {A:Around} {t:Nat} {E:Value→Shared→Prop} {Q:MV→Hp→Prop} {X:Addr→Prop}
theorem get?_size (h:Heap):h.get? h.objs.size=none:=Heap.get?_none_of_le (Nat.le_refl _)
theorem u1r (I:Inv cx fs own σ h):cx.base.get? h.objs.size=none:=by
 cases q:cx.base.get? h.objs.size with
 |none=>rfl
 |some o=>
  have:=I.base _ _ q
  rw [get?_size]at this;cases this
theorem v8i:(Value.type "list")≠ .type "tuple":=by decide
theorem v4w:(Value.type "dict")≠ .type "tuple":=by decide
theorem w7i (C:Addr):(Value.ref C)≠ .type "tuple":=fun e=>by cases e
theorem u8j (I:Inv cx fs own σ h) {xs:List MV} {ys:List Value} (r:u0j cx.sy h xs ys) (q:newP (.list xs) σ Q):
  Pst cx fs X own h (VQ cx Q) (.ref h.objs.size) (cx.mk' (h.push (listOf ys.toArray 0)) t):=by
 have e:=get?_size h
 have up:∀b o,h.get? b=some o→(h.push (listOf ys.toArray 0)).get? b=some o:=fun b o=>Heap.get?_push_of_some _
 refine u2k (I.alloc (mo:=.list xs) (h':=h.push (listOf ys.toArray 0)) e (u1r I) up (Heap.get?_push_size h rfl) v8i (fun tk=>⟨ys,0,Heap.get?_push_size h rfl,r.tk tk⟩)) fun I' k x=>?_
 exact⟨_,t,_,_,rfl,I',x,k.mono fun _ z=>z.elim,.ref h.objs.size,rfl,q _ (I.fresh e).1⟩
theorem Inv.push_any (I:Inv cx fs own σ h) (oo:Obj):Inv cx fs own σ (h.push oo)∧Keep fs own noX h (h.push oo):=by
 have up:∀b o,h.get? b=some o→(h.push oo).get? b=some o:=fun b o=>Heap.get?_push_of_some _
 have k:Keep fs own noX h (h.push oo):=⟨fun a o e=>⟨o,up a o e⟩,fun a o e _ _=>.inl (up a o e),fun a o _ _ _ e=>⟨o,up a o e,rfl⟩⟩
 have tk:=I.tk0 k
 refine⟨⟨fun b o e=>up b o (I.base b o e),fun a x e=>?_,I.ownr,fun a o e=>?_,fun ev hm=>?_,fun a b=>?_⟩,k⟩
 ·refine u0a (I.ownd a x e) fun z1 zz1=>?_
  refine u0d zz1 fun o z2 z3=>?_
  exact⟨z1,o,up a o z2,z3⟩
 ·exact I.objK e tk (fun _ _ z=>z) (fun _ z=>z) fun b oo _ q=>up b oo q
 ·refine u2o (I.frames ev hm) fun L o es n' f1 f2 f3 f4 f5 f7=>?_
  exact⟨L,o,es,n',f1,f2,f3,up L o f4,f5,f7⟩
 ·refine u1j (I.bans a b) fun ys n e=>?_;exact⟨ys,n,up a _ e⟩
theorem u8w (I:Inv cx fs own σ h) {xs:List MV} {ys:List Value} (r:u0j cx.sy h xs ys) (q:Q (.tup xs) σ):
  Pst cx fs X own h (VQ cx Q) (.ref h.objs.size) (cx.mk' (h.push (u0z ys 0)) t):=by
 refine u0a (I.push_any (u0z ys 0)) fun I' k=>?_
 exact⟨_,t,_,_,rfl,I',.refl ..,k.mono fun _ z=>z.elim,.tup xs,.mk_tup (I.free (get?_size h)) (Heap.get?_push_size h rfl) (r.tk (I.tk0 k)),q⟩
theorem u0r (I:Inv cx fs own σ h) {m:MV} {v:Value} (r:VRel cx.sy h m v) (q:Q m σ):Pst cx fs X own h (VQ cx Q) v (cx.mk' h t):=Pst.here I ⟨m,r,q⟩
theorem x1b {i:Int} (e:i.natAbs<2^64):Builtin.Int.intBits i≤64:=intBits_le_64 (by lia) (by lia)
theorem u1t {K:Int→Int→Prop} {ma mb:MV} {a b:Value} {G:Value→Value→Prop} (ra:VRel cx.sy h ma a) (rb:VRel cx.sy h mb b) (q:intP ma mb K) (f:∀i j t u,K i j→G (.int i t) (.int j u)):G a b:=by
 cases ma with
 |int i=>cases mb with
  |int j=>
   refine u0i ra.int_inv fun t zz2=>?_
   subst zz2
   refine u0i rb.int_inv fun u zz3=>?_
   subst zz3
   exact f i j t u q
  |_=>exact False.elim q
 |_=>exact False.elim q
theorem x3x (I:Inv cx fs own σ h) {xs ys:List MV} {a b:Value} (ra:VRel cx.sy h (.tup xs) a) (rb:VRel cx.sy h (.tup ys) b) (q:(xs≠[]∧ys≠[]∧xs.length+ys.length≤u0t)∧Q (.tup (xs++ys)) σ):
  wpAny (model cx.prog cx.w) A (binaryOp .Add a b) (Pst cx fs X own h (VQ cx Q)) E (cx.mk' h t):=by
 refine u1b ra.tup_inv fun l us n zz4 g1 r1=>?_
 subst zz4
 refine u1b rb.tup_inv fun l2 us2 n2 zz5 g2 r2=>?_
 subst zz5
 have ea:us.toArray++us2.toArray=(us++us2).toArray:=by simp
 have l1:=r1.length
 have l2:=r2.length
 refine PySem.P.add_tuple (items:=us.toArray) (items2:=us2.toArray) g1 g2 (fun e=>q.1.1 ?_) (fun e=>q.1.2.1 ?_) ?_ ?_
 ·rw [←List.length_eq_zero_iff,←l1];simpa using e
 ·rw [←List.length_eq_zero_iff,←l2];simpa using e
 ·have z:=u8w (cx:=cx) (X:=X) (t:=t) I (r1.append r2) q.2
  rw [ea];exact z
 ·have:=q.1.2.2;simp only [List.size_toArray,l1,l2];unfold u0t at this;rw [sizeLine_eq];lia
theorem x3y (I:Inv cx fs own σ h) {l k:Addr} {a b:Value} (ra:VRel cx.sy h (.ref l) a) (rb:VRel cx.sy h (.ref k) b) (q:∃xs ys,σ l=some (.list xs)∧σ k=some (.list ys)∧xs.length+ys.length≤u0t∧newP (.list (xs++ys)) σ Q):
  wpAny (model cx.prog cx.w) A (binaryOp .Add a b) (Pst cx fs X own h (VQ cx Q)) E (cx.mk' h t):=by
 have ra:=ra.ref_inv
 have rb:=rb.ref_inv
 subst ra rb
 refine x2x q fun xs ys e1 e2 hz q=>?_
 refine u0a (I.objs l _ e1) fun _ zz6=>?_
 refine u1m zz6 fun us n g1 r1=>?_
 refine u0a (I.objs k _ e2) fun _ zz7=>?_
 refine u1m zz7 fun us2 n2 g2 r2=>?_
 have l1:=r1.length
 have l2:=r2.length
 have ea:us.toArray++us2.toArray=(us++us2).toArray:=by simp
 refine PySem.P.add_list (items:=us.toArray) (items2:=us2.toArray) g1 g2 ?_ ?_
 ·have z:=u8j (cx:=cx) (X:=X) (t:=t) I (r1.append r2) q
  rw [ea];exact z
 ·simp only [List.size_toArray,l1,l2];unfold u0t at hz;rw [sizeLine_eq];lia
theorem x1s (I:Inv cx fs own σ h) {l:Addr} {n:Int} {a b:Value} (ra:VRel cx.sy h (.ref l) a) (rb:VRel cx.sy h (.int n) b) (q:∃xs,σ l=some (.list xs)∧0≤n∧n<2^62∧xs.length*n.toNat≤256∧newP (.list (List.replicate n.toNat xs).flatten) σ Q):
  wpAny (model cx.prog cx.w) A (binaryOp .Mult a b) (Pst cx fs X own h (VQ cx Q)) E (cx.mk' h t):=by
 refine u0i rb.int_inv fun u zz8=>?_
 subst zz8
 have ra:=ra.ref_inv
 subst ra
 refine w0z q fun xs e1 h0 hhi hsz q=>?_
 refine u0a (I.objs l _ e1) fun _ zz9=>?_
 refine u1m zz9 fun vs k ho r1=>?_
 have l1:=r1.length
 have hsz':vs.length*n.toNat≤256:=by rw [l1];exact hsz
 have hszA:vs.toArray.size*n.toNat≤256:=by simp only [List.size_toArray,l1];exact hsz
 refine wpAny_binaryOp_repeat_ref (T:="list") (U:="int") (by decide) ⟨_,ho,rfl⟩ (fun s'=>typeIs_int s' n u) noFill_list_mul F.fills_int_mul F.slot_int_rmul repeat_list F.slot_int_index.lookup
  (call_meets F.slot_int_rmul (typeIs_int _ n u) F.entry_int_rmul (F.args_int_rmul_2 _ _) (lm_int_rmul_list_any n u l vs.toArray k none #[])
   ⟨ho,rfl,⟨_,ho,rfl⟩,call_meets F.slot_list_mul ⟨_,ho,rfl⟩ F.entry_list_mul (F.args_list_mul_2 _ _)
    (lm_list_mul_any l vs.toArray k none #[] n u (by simp [Builtin.List.listFitsIndex];lia) (by lia) (by simp [Builtin.List.listTooLong,sizeLine];lia))
    ⟨ho,?_⟩⟩)
 rw [listMul_foldl_if]
 exact u8j (cx:=cx) (X:=X) (t:=t) I (r1.replicate n.toNat) q
theorem w9w (I:Inv cx fs own σ h) {n:Nat} {s:Str} {a b:Value} (ra:VRel cx.sy h (.sym n) a) (rb:VRel cx.sy h (.txt s) b) (q:s.length≤1000∧∀s',Q (.txt s') σ):
  wpAny (model cx.prog cx.w) A (binaryOp .Add a b) (Pst cx fs X own h (VQ cx Q)) E (cx.mk' h t):=by
 refine u1m ra.sym_inv fun x u e zz10=>?_
 subst zz10
 refine u0i rb.txt_inv fun u2 zz11=>?_
 subst zz11
 refine PyProof.Rows.add_str (fun t' tk=>u0r I (.mk_txt (x++s) _) (q.2 _)) ?_
 have:=(cx.short x (List.mem_of_getElem? e)).1
 have:=q.1
 rw [sizeLine_eq];lia
theorem x3z {a b:MV} {P:MV→MV→Prop} (q:addP a b σ Q) (h1:∀i j,Q (.int (i+j)) σ→P (.int i) (.int j))
  (h2:∀xs ys,(xs≠[]∧ys≠[]∧xs.length+ys.length≤u0t)∧Q (.tup (xs++ys)) σ→P (.tup xs) (.tup ys))
  (h3:∀l k,(∃xs ys,σ l=some (.list xs)∧σ k=some (.list ys)∧xs.length+ys.length≤u0t∧newP (.list (xs++ys)) σ Q)→P (.ref l) (.ref k))
  (h4:∀n s,(s.length≤1000∧∀s',Q (.txt s') σ)→P (.sym n) (.txt s)):P a b:=by
 cases a with
 |int i=>cases b with
  |int j=>exact h1 i j q
  |_=>exact False.elim q
 |tup xs=>cases b with
  |tup ys=>exact h2 xs ys q
  |_=>exact False.elim q
 |ref l=>cases b with
  |ref k=>exact h3 l k q
  |_=>exact False.elim q
 |sym n=>cases b with
  |txt s=>exact h4 n s q
  |_=>exact False.elim q
 |_=>exact False.elim q
theorem x1t {a b:MV} {P:MV→MV→Prop} (q:mulP a b σ Q) (h1:∀i j,(i.natAbs<2^64∧j.natAbs<2^64)∧Q (.int (i*j)) σ→P (.int i) (.int j))
  (h2:∀l n,(∃xs,σ l=some (.list xs)∧0≤n∧n<2^62∧xs.length*n.toNat≤256∧newP (.list (List.replicate n.toNat xs).flatten) σ Q)→P (.ref l) (.int n)):P a b:=by
 cases a with
 |int i=>cases b with
  |int j=>exact h1 i j q
  |_=>exact False.elim q
 |ref l=>cases b with
  |int j=>exact h2 l j q
  |_=>exact False.elim q
 |_=>exact False.elim q
theorem w3o {i j:Int} (q:i.natAbs<2^64∧0≤j∧j≤1000000):(Builtin.Int.intBits i:Int)*j≤2^27:=by
 have:=x1b q.1
 have h2:=q.2.2
 have h1:=q.2.1
 calc (Builtin.Int.intBits i:Int)*j≤64*1000000:=Int.mul_le_mul (by lia) h2 h1 (by decide)
  _≤2^27:=by decide
theorem w6o (I:Inv cx fs own σ h) {op:Operator} {ma mb:MV} {a b:Value} (ra:VRel cx.sy h ma a) (rb:VRel cx.sy h mb b) (q:binP op ma mb σ Q):
  wpAny (model cx.prog cx.w) A (binaryOp op a b) (Pst cx fs X own h (VQ cx Q)) E (cx.mk' h t):=by
 have vi:∀(i:Int) (t' t'':Nat),Q (.int i) σ→Pst cx fs X own h (VQ cx Q) (Value.int i t') (cx.mk' h t''):=fun i t' t'' z=>u0r I (.mk_int i _) z
 cases op with
 |Add=>
  refine x3z (P:=fun ma mb=>VRel cx.sy h ma a→VRel cx.sy h mb b→wpAny (model cx.prog cx.w) A (binaryOp .Add a b) (Pst cx fs X own h (VQ cx Q)) E (cx.mk' h t)) q (fun i j q ra rb=>?_) (fun xs ys q ra rb=>x3x I ra rb q) (fun l k q ra rb=>x3y I ra rb q) (fun n s q ra rb=>w9w I ra rb q) ra rb
  refine u0i ra.int_inv fun _ zz12=>?_;subst zz12;refine u0i rb.int_inv fun _ zz13=>?_;subst zz13;exact PyProof.Rows.add_int (vi _ _ _ q)
 |Mult=>
  refine x1t (P:=fun ma mb=>VRel cx.sy h ma a→VRel cx.sy h mb b→wpAny (model cx.prog cx.w) A (binaryOp .Mult a b) (Pst cx fs X own h (VQ cx Q)) E (cx.mk' h t)) q (fun i j q ra rb=>?_) (fun l n q ra rb=>x1s I ra rb q) ra rb
  refine u0i ra.int_inv fun _ zz14=>?_;subst zz14;refine u0i rb.int_inv fun _ zz15=>?_;subst zz15;exact PyProof.Rows.mul_int (vi _ _ _ q.2) (.of_left (x1b q.1.1))
 |Sub=>exact u1t (G:=fun a b=>wpAny _ A (binaryOp .Sub a b) _ E _) ra rb q fun i j t u q=>PyProof.Rows.sub_int (vi _ _ _ q)
 |FloorDiv=>exact u1t (G:=fun a b=>wpAny _ A (binaryOp .FloorDiv a b) _ E _) ra rb q fun i j t u q=>PyProof.Rows.floordiv_int q.1.1 (vi _ _ _ q.2) (.inl (PyProof.noPylong_small q.1.2))
 |Mod=>exact u1t (G:=fun a b=>wpAny _ A (binaryOp .Mod a b) _ E _) ra rb q fun i j t u q=>PyProof.Rows.mod_int q.1 (vi _ _ _ q.2)
 |Pow=>exact u1t (G:=fun a b=>wpAny _ A (binaryOp .Pow a b) _ E _) ra rb q fun i j t u q=>PyProof.Rows.pow_int q.1.2.1 (w3o q.1) (vi _ _ _ q.2)
 |LShift=>exact u1t (G:=fun a b=>wpAny _ A (binaryOp .LShift a b) _ E _) ra rb q fun i j t u q=>PyProof.Rows.lshift_int_small q.1.2.1 q.1.2.2 q.1.1 (vi _ _ _ q.2)
 |RShift=>exact u1t (G:=fun a b=>wpAny _ A (binaryOp .RShift a b) _ E _) ra rb q fun i j t u q=>PyProof.Rows.rshift_int q.1 (vi _ _ _ q.2)
 |BitAnd=>exact u1t (G:=fun a b=>wpAny _ A (binaryOp .BitAnd a b) _ E _) ra rb q fun i j t u q=>PyProof.Rows.and_int (vi _ _ _ q)
 |BitOr=>exact u1t (G:=fun a b=>wpAny _ A (binaryOp .BitOr a b) _ E _) ra rb q fun i j t u q=>PyProof.Rows.or_int (vi _ _ _ q)
 |BitXor=>exact u1t (G:=fun a b=>wpAny _ A (binaryOp .BitXor a b) _ E _) ra rb q fun i j t u q=>PyProof.Rows.xor_int (vi _ _ _ q)
 |_=>exact False.elim q
end
section
variable {T:Tab}
mutual
noncomputable def toPy (sy:List Str):MV→PyData
 |.none=>.none
 |.bool b=>.bool b
 |.int i=>.int i
 |.sym n=>.str (sy[n]?.getD Str.empty)
 |.tup xs=>.tuple (u4g sy xs)
 |_=>.none
noncomputable def u4g (sy:List Str):List MV→List PyData
 |[]=>[]
 |x::r=>toPy sy x::u4g sy r
end
noncomputable def DR (sy:Sy) (h:Heap) (n:Nat) (m:MV) (v:Value):Prop:=(∃as,Reads h v (toPy sy.l m) as)∧(toPy sy.l m).canLay0=true∧(toPy sy.l m).depth≤n
theorem v7o {sy:Sy} {h:Heap} {n:Nat} (f:∀{m:MV} {v:Value},VRel sy h m v→m.isData n=true→DR sy h n m v) {ms:List MV} {vs:List Value} (r:u0j sy h ms vs) (d:u2t n ms=true):(∃as,ReadsAll h vs (u4g sy.l ms) as)∧PyData.canLayAll0 (u4g sy.l ms)=true∧PyData.depthAll (u4g sy.l ms)≤n:=by
 induction ms generalizing vs with
 |nil=>exact r.nil_inv▸⟨⟨_,ReadsAll.nil⟩,rfl,Nat.zero_le n⟩
 |cons m ms ih=>exact u1c r.cons_inv fun v vs' z p q=>u0a (Bool.and_eq_true_iff.mp d) fun d1 d2=>u2k (f p d1) fun a p2 p3=>u0i a fun as p=>u2k (ih q d2) fun b q2 q3=>u0i b fun bs q=>z▸⟨⟨_,ReadsAll.cons p q⟩,Bool.and_eq_true_iff.mpr ⟨p2,q2⟩,Nat.max_le.mpr ⟨p3,q3⟩⟩
theorem v3i {sy:Sy} {h:Heap} (hs:∀x ∈ sy.l,PyData.strOk x=true) {n:Nat} {m:MV} {v:Value} (r:VRel sy h m v) (d:m.isData n=true) (f:∀xs,m=.tup xs→DR sy h n m v):DR sy h n m v:=by
 cases m with
 |none=>exact r.none_inv▸⟨⟨_,Reads.none⟩,rfl,Nat.zero_le _⟩
 |bool b=>exact r.bool_inv▸⟨⟨_,Reads.bool b⟩,rfl,Nat.zero_le _⟩
 |int i=>exact u0i r.int_inv fun t e=>e▸⟨⟨_,Reads.int i t⟩,rfl,Nat.zero_le _⟩
 |sym k=>
  refine u1m r.sym_inv fun x t e z=>z▸?_
  have e':toPy sy.l (.sym k)=.str x:=congrArg (fun o:Option Str=>PyData.str (o.getD Str.empty)) e
  exact⟨⟨_,e'▸Reads.str x t⟩,e'▸hs x (List.mem_of_getElem? e),e'▸Nat.zero_le _⟩
 |tup xs=>exact f xs rfl
 |_=>exact(Bool.false_ne_true d).elim
theorem u6k {sy:Sy} {h:Heap} (hs:∀x ∈ sy.l,PyData.strOk x=true) {n:Nat} {m:MV} {v:Value} (r:VRel sy h m v) (d:m.isData n=true):DR sy h n m v:=by
 induction n generalizing m v with
 |zero=>exact v3i hs r d fun xs e=>by subst e;exact(Bool.false_ne_true d).elim
 |succ n ih=>exact v3i hs r d fun xs e=>by subst e;exact u1b r.tup_inv fun a ys k z g q=>u2k (v7o ih q d) fun y q2 q3=>u0i y fun as q=>z▸⟨⟨as,reads_tuple_at g rfl rfl q⟩,q2,Nat.succ_le_succ q3⟩
theorem v3h {sy:Sy} {h:Heap} (hs:∀x ∈ sy.l,PyData.strOk x=true) {n:Nat} {ms:List MV} {vs:List Value} (r:u0j sy h ms vs) (d:u2t n ms=true):(∃as,ReadsAll h vs (u4g sy.l ms) as)∧PyData.canLayAll0 (u4g sy.l ms)=true∧PyData.depthAll (u4g sy.l ms)≤n:=v7o (u6k hs) r d
theorem x1h {sy:List Str} (nd:sy.Nodup) {k j:Nat} {x y:Str} (e:sy[k]?=some x) (e':sy[j]?=some y):(x==y)=decide (k=j):=by
 by_cases q:k=j
 ·subst q;rw [e]at e';cases e';rw [beq_self_eq_true,decide_eq_true rfl]
 ·rw [decide_eq_false q]
  refine beq_eq_false_iff_ne.mpr fun z=>?_
  subst z
  exact q ((List.getElem?_inj (List.getElem?_eq_some_iff.mp e).1 nd).mp (e.trans e'.symm))
noncomputable def x9e (sy:Sy) (h h':Heap) (n:Nat):Prop:=∀{n':Nat} {m m':MV} {v v':Value},VRel sy h m v→m.isData n=true→VRel sy h' m' v'→m'.isData n'=true→PyData.eqv (toPy sy.l m) (toPy sy.l m')=m.beq m'
theorem u7q {sy:Sy} {h h':Heap} {n:Nat} (f:x9e sy h h' n) {n':Nat} {ms ms':List MV} {vs vs':List Value} (r:u0j sy h ms vs) (d:u2t n ms=true) (r':u0j sy h' ms' vs') (d':u2t n' ms'=true):PyData.eqvAll (u4g sy.l ms) (u4g sy.l ms')=beqs ms ms':=by
 induction ms generalizing ms' vs vs' with
 |nil=>cases ms'<;>rfl
 |cons m ms ih=>cases ms' with
  |nil=>rfl
  |cons m' ms'=>exact u1c r.cons_inv fun v vs _ p q=>u1c r'.cons_inv fun v' vs' _ p' q'=>u0a (Bool.and_eq_true_iff.mp d) fun d1 d2=>u0a (Bool.and_eq_true_iff.mp d') fun d1' d2'=>congr (congrArg and (f p d1 p' d1')) (ih q d2 q' d2')
theorem x2y {sy:Sy} {h h':Heap} (nd:sy.l.Nodup) {k j:Nat} {v v':Value} (r:VRel sy h (.sym k) v) (r':VRel sy h' (.sym j) v'):PyData.eqv (.str (sy.l[k]?.getD Str.empty)) (.str (sy.l[j]?.getD Str.empty))=decide (k=j):=by
 refine u1m r.sym_inv fun x t e _=>u1m r'.sym_inv fun y u e' _=>?_
 rw [e,e'];exact x1h nd e e'
theorem v8v {sy:Sy} {h h':Heap} (nd:sy.l.Nodup) {n n':Nat} {m m':MV} {v v':Value} (r:VRel sy h m v) (d:m.isData n=true) (r':VRel sy h' m' v') (d':m'.isData n'=true) (f:∀xs ys,m=.tup xs→m'=.tup ys→PyData.eqv (toPy sy.l m) (toPy sy.l m')=m.beq m'):PyData.eqv (toPy sy.l m) (toPy sy.l m')=m.beq m':=by
 cases m with
 |sym k=>cases m' with
  |sym j=>exact x2y nd r r'
  |_=>first|rfl|exact(Bool.false_ne_true d').elim
 |tup xs=>cases m' with
  |tup ys=>exact f xs ys rfl rfl
  |_=>first|rfl|exact(Bool.false_ne_true d').elim
 |txt _=>exact(Bool.false_ne_true d).elim
 |ref _=>exact(Bool.false_ne_true d).elim
 |con _=>exact(Bool.false_ne_true d).elim
 |_=>cases m'<;>first|rfl|exact(Bool.false_ne_true d').elim
theorem v1o {sy:Sy} {h h':Heap} (nd:sy.l.Nodup) {n:Nat}:x9e sy h h' n:=by
 induction n with
 |zero=>
  refine fun{n' m m' v v'} r d r' d'=>v8v nd r d r' d' fun xs ys e e'=>?_
  subst e
  exact(Bool.false_ne_true d).elim
 |succ n ih=>
  refine fun{n' m m' v v'} r d r' d'=>v8v nd r d r' d' fun xs ys e e'=>?_
  subst e
  subst e'
  cases n' with
  |zero=>exact(Bool.false_ne_true d').elim
  |succ n'=>exact u1b r.tup_inv fun a ys k _ g q=>u1b r'.tup_inv fun a' ys' k' _ g' q'=>u7q ih q d q' d'
theorem w2a {sy:Sy} {h h':Heap} (nd:sy.l.Nodup) {n n':Nat} {ms ms':List MV} {vs vs':List Value} (r:u0j sy h ms vs) (d:u2t n ms=true) (r':u0j sy h' ms' vs') (d':u2t n' ms'=true):PyData.eqvAll (u4g sy.l ms) (u4g sy.l ms')=beqs ms ms':=u7q (v1o nd) r d r' d'
theorem w6s {sy:Sy} {h:Heap} (nd:sy.l.Nodup) {a:MV} {v:Value} (ra:VRel sy h a v) (da:a.isData 8=true) {xs:List MV} {ys:List Value} (r:u0j sy h xs ys) (d:u1d xs=true):
  ((u4g sy.l xs).any fun y=>PyData.eqv y (toPy sy.l a))=xs.any fun x=>x.beq a:=by
 induction xs generalizing ys with
 |nil=>rfl
 |cons x xs ih=>exact u1c r.cons_inv fun v' vs _ p q=>u0a (Bool.and_eq_true_iff.mp d) fun d1 d2=>congr (congrArg or (v1o nd p d1 ra da)) (ih q d2)
end
section
variable {T:Tab} {cx:Cx T} {fs:List Env} {own:Addr→Option Addr} {σ:Hp} {h:Heap} {A:Around} {t:Nat} {E:Value→Shared→Prop}
theorem cx.strs (cx:Cx T):∀x ∈ T.sym,PyData.strOk x=true:=fun x hx=>(cx.short x hx).2
theorem u7h {xs:List MV} {a:Addr} {ys:List Value} {n:Nat} (cx:Cx T) (g:h.get? a=some (listOf ys.toArray n)) (r:u0j cx.sy h xs ys) (d:u1d xs=true):
  (∃as,Reads h (.ref a) (.list (u4g T.sym xs)) as)∧PyData.canLayAll0 (u4g T.sym xs)=true∧PyData.depthAll (u4g T.sym xs)≤8:=by
 refine u2k (v3h (fun x hx=>(cx.short x hx).2) r d) fun zz29 q2 q3=>?_
 refine u0i zz29 fun as q=>?_
 exact⟨⟨_,reads_list_at g rfl rfl (by simpa using q)⟩,q2,q3⟩
noncomputable def DatE (h:Heap) (a b:Value) (K:Bool→Prop):Prop:=
 ∃da db as bs,Reads h a da as∧Reads h b db bs∧da.canLay0=true∧db.canLay0=true∧(da.depth≤9∧db.depth≤9)∧K (PyData.eqv da db)
theorem w5s {ma mb:MV} {a b:Value} {Q:Bool→Prop} (cx:Cx T) (ra:VRel cx.sy h ma a) (rb:VRel cx.sy h mb b) (d:ma.isData 8=true∧mb.isData 8=true) (q:Q (ma.beq mb)):DatE h a b Q:=by
 refine u2k (u6k (fun x hx=>(cx.short x hx).2) ra d.1) fun zz30 c1 d1=>?_
 refine u0i zz30 fun as r1=>?_
 refine u2k (u6k (fun x hx=>(cx.short x hx).2) rb d.2) fun zz31 c2 d2=>?_
 refine u0i zz31 fun bs r2=>?_
 exact⟨_,_,as,bs,r1,r2,c1,c2,⟨Nat.le_succ_of_le d1,Nat.le_succ_of_le d2⟩,(v1o cx.nodup ra d.1 rb d.2).symm▸q⟩
theorem x2z {l k:Addr} {a b:Value} {Q:Bool→Prop} (I:Inv cx fs own σ h) (ra:VRel cx.sy h (.ref l) a) (rb:VRel cx.sy h (.ref k) b)
  (q:∃xs ys,σ l=some (.list xs)∧σ k=some (.list ys)∧(u1d xs=true∧u1d ys=true)∧Q (beqs xs ys)):DatE h a b Q:=by
 have ra:=ra.ref_inv;have rb:=rb.ref_inv;subst ra rb
 refine x2x q fun xs ys e1 e2 d q=>?_
 refine u0a (I.objs l _ e1) fun _ zz32=>?_
 refine u1m zz32 fun us n g1 r1=>?_
 refine u0a (I.objs k _ e2) fun _ zz33=>?_
 refine u1m zz33 fun us2 n2 g2 r2=>?_
 refine u2k (u7h cx g1 r1 d.1) fun zz34 c1 d1=>?_
 refine u0i zz34 fun as z1=>?_
 refine u2k (u7h cx g2 r2 d.2) fun zz35 c2 d2=>?_
 refine u0i zz35 fun bs z2=>?_
 have e:PyData.eqv (.list (u4g T.sym xs)) (.list (u4g T.sym ys))=beqs xs ys:=by simp only [PyData.eqv];exact w2a cx.nodup r1 d.1 r2 d.2
 exact⟨_,_,as,bs,z1,z2,by simpa [PyData.canLay0] using c1,by simpa [PyData.canLay0] using c2,⟨by simp only [PyData.depth];lia,by simp only [PyData.depth];lia⟩,e.symm▸q⟩
theorem x8g {a b:MV} {Q:Bool→Prop} {P:MV→MV→Prop} (q:eqP a b σ Q) (f:∀a b,(a.isData 8=true∧b.isData 8=true)→Q (a.beq b)→P a b)
  (g:∀l k,(∃xs ys,σ l=some (.list xs)∧σ k=some (.list ys)∧(u1d xs=true∧u1d ys=true)∧Q (beqs xs ys))→P (.ref l) (.ref k)):P a b:=by
 cases a with
 |ref l=>cases b with
  |ref k=>exact g l k q
  |_=>exact False.elim q
 |int i=>cases b with
  |int j=>exact f (.int i) (.int j) ⟨rfl,rfl⟩ q
  |_=>exact f _ _ q.1 q.2
 |sym i=>cases b with
  |sym j=>exact f (.sym i) (.sym j) ⟨rfl,rfl⟩ q
  |_=>exact f _ _ q.1 q.2
 |_=>exact f _ _ q.1 q.2
theorem w5o {ma mb:MV} {a b:Value} {Q:Bool→Prop} (I:Inv cx fs own σ h) (ra:VRel cx.sy h ma a) (rb:VRel cx.sy h mb b) (q:eqP ma mb σ Q):DatE h a b Q:=
 x8g (P:=fun ma mb=>VRel cx.sy h ma a→VRel cx.sy h mb b→DatE h a b Q) q (fun _ _ d q ra rb=>w5s cx ra rb d q) (fun _ _ q ra rb=>x2z I ra rb q) ra rb
theorem v8b {ma mb:MV} {a b:Value} {Q:Bool→Prop} (ra:VRel cx.sy h ma a) (rb:VRel cx.sy h mb b) (q:nonP ma mb Q):b=.none∧((a=.none∧Q true)∨((PySem.plainIs a .none=true∧a≠ .none)∧Q false)):=by
 cases mb with
 |none=>
  refine⟨rb.none_inv,?_⟩
  cases ma with
  |none=>exact .inl ⟨ra.none_inv,q⟩
  |int i=>refine u0i ra.int_inv fun _ zz36=>?_;subst zz36;exact .inr ⟨⟨rfl,Value.noConfusion⟩,q⟩
  |bool i=>rw [ra.bool_inv];exact .inr ⟨⟨rfl,Value.noConfusion⟩,q⟩
  |sym i=>refine u1m ra.sym_inv fun _ _ _ zz37=>?_;subst zz37;exact .inr ⟨⟨rfl,Value.noConfusion⟩,q⟩
  |tup i=>refine u7o ra.tup_inv fun _ _ _ zz38 _=>?_;subst zz38;exact .inr ⟨⟨rfl,Value.noConfusion⟩,q⟩
  |ref i=>rw [ra.ref_inv];exact .inr ⟨⟨rfl,Value.noConfusion⟩,q⟩
  |_=>exact False.elim q
 |_=>exact False.elim q
theorem w4q {ma mb:MV} {a b:Value} {Q:Bool→Prop} (I:Inv cx fs own σ h) (ra:VRel cx.sy h ma a) (rb:VRel cx.sy h mb b) (q:inP ma mb σ Q):
  ∃da ds as bs,Reads h a da as∧da.canLay0=true∧PyData.canLayAll0 ds=true∧(da.depth≤8∧PyData.depthAll ds≤8)∧(Reads h b (.tuple ds) bs∨Reads h b (.list ds) bs)∧Q (ds.any fun y=>PyData.eqv y da):=by
 cases mb with
 |tup xs=>
  refine u1b rb.tup_inv fun a' ys n zz39 g r=>?_
  subst zz39
  refine u2k (u6k (fun x hx=>(cx.short x hx).2) ra q.1.1) fun zz40 c1 d1=>?_
  refine u0i zz40 fun as r1=>?_
  refine u2k (v3h (fun x hx=>(cx.short x hx).2) r q.1.2) fun zz41 q2 q3=>?_
  refine u0i zz41 fun bs q1=>?_
  exact⟨_,_,as,_,r1,c1,q2,⟨d1,q3⟩,.inl (reads_tuple_at (h:=h) g rfl rfl q1),(w6s cx.nodup ra q.1.1 r q.1.2).symm▸q.2⟩
 |ref l=>
  have rb:=rb.ref_inv;subst rb
  refine u1e q fun xs e1 d q=>?_
  refine u0a (I.objs l _ e1) fun _ zz42=>?_
  refine u1m zz42 fun us n g r=>?_
  refine u2k (u6k (fun x hx=>(cx.short x hx).2) ra d.1) fun zz43 c1 d1=>?_
  refine u0i zz43 fun as r1=>?_
  refine u2k (u7h cx g r d.2) fun zz44 q2 q3=>?_
  refine u0i zz44 fun bs z=>?_
  exact⟨_,_,as,_,r1,c1,q2,⟨d1,q3⟩,.inr z,(w6s cx.nodup ra d.1 r d.2).symm▸q⟩
 |_=>exact False.elim q
theorem u6z (I:Inv cx fs own σ h) (hu:A.units+64<cLine) {op:CmpOp} {ma mb:MV} {a b:Value} {Q:Bool→Prop} {R:Value→Shared→Prop} (ra:VRel cx.sy h ma a) (rb:VRel cx.sy h mb b) (q:cmpP op ma mb σ Q)
  (k:∀c t',Q c→R (.bool c) (cx.mk' h t')):wpAny (model cx.prog cx.w) A (compareOp op a b) R E (cx.mk' h t):=by
 cases op with
 |Eq=>
  refine u2o (w5o I ra rb q) fun da db as bs r1 r2 c1 c2 d q=>?_
  exact SeqAt.compareEq_reads r1 r2 c1 c2 (by lia) (k _ _ q)
 |NotEq=>
  refine u2o (w5o (Q:=fun c=>Q (!c)) I ra rb q) fun da db as bs r1 r2 c1 c2 d q=>?_
  exact SeqAt.compareNe_reads r1 r2 c1 c2 (by lia) (k _ _ q)
 |Lt=>exact u1t (G:=fun a b=>wpAny _ A (compareOp .Lt a b) _ E _) ra rb q fun i j t u q=>PyProof.Rows.lt_int (k _ _ q)
 |LtE=>exact u1t (G:=fun a b=>wpAny _ A (compareOp .LtE a b) _ E _) ra rb q fun i j t u q=>PyProof.Rows.le_int (k _ _ q)
 |Gt=>exact u1t (G:=fun a b=>wpAny _ A (compareOp .Gt a b) _ E _) ra rb q fun i j t u q=>PyProof.Rows.gt_int (k _ _ q)
 |GtE=>exact u1t (G:=fun a b=>wpAny _ A (compareOp .GtE a b) _ E _) ra rb q fun i j t u q=>PyProof.Rows.ge_int (k _ _ q)
 |Is=>
  obtain⟨rfl,⟨rfl,q⟩|⟨n,q⟩⟩:=v8b ra rb q
  ·exact wpAny_is_self rfl (k _ _ q)
  ·exact wpAny_is_other n.1 n.2 (k _ _ q)
 |IsNot=>
  obtain⟨rfl,⟨rfl,q⟩|⟨n,q⟩⟩:=v8b (Q:=fun c=>Q (!c)) ra rb q
  ·exact wpAny_isNot_self rfl (k _ _ q)
  ·exact wpAny_isNot_other n.1 n.2 (k _ _ q)
 |In=>
  obtain⟨da,ds,as,bs,r1,c1,c2,d,r2|r2,q⟩:=w4q I ra rb q
  ·exact SeqAt.in_tuple_reads r2 r1 c2 c1 (by lia) (k _ _ q)
  ·exact SeqAt.in_list_reads r2 r1 c2 c1 (by lia) (k _ _ q)
 |NotIn=>
  obtain⟨da,ds,as,bs,r1,c1,c2,d,r2|r2,q⟩:=w4q (Q:=fun c=>Q (!c)) I ra rb q
  ·exact SeqAt.notIn_tuple_reads r2 r1 c2 c1 (by lia) (k _ _ q)
  ·exact SeqAt.notIn_list_reads r2 r1 c2 c1 (by lia) (k _ _ q)
end
end Mine
end
section
open PySem PySem.W PyProof.Rows PySem.Builtin.ObjectAttr
set_option maxRecDepth 20000
namespace Mine
section
variable {T:Tab} {cx:Cx T} {fs:List Env} {own:Addr→Option Addr} {σ:Hp} {h:Heap} {A:Around} {t:Nat} {E:Value→Shared→Prop} {Q:MV→Hp→Prop} {X:Addr→Prop}
theorem u7d (cx:Cx T) {i j:Nat} {x:Str} (e:T.sym[i]?=some x) (e':T.sym[j]?=some x):i=j:=
 (List.getElem?_inj (List.getElem?_eq_some_iff.mp e).1 cx.nodup).mp (e.trans e'.symm)
theorem FRel.refKeys {l:List (Nat×MV)} {es:List DictEntry} (r:FRel cx h l es):es.any (·.refKey)=false:=by
 induction l generalizing es with
 |nil=>rw [show es=[]from r];rfl
 |cons p l ih=>
  refine u2o r fun e r' x t z _ ek _ _ q=>?_
  rw [z,List.any_cons,ih q]
  show(e.refKey||false)=false
  unfold DictEntry.refKey
  rw [ek];rfl
theorem u6s (x y:Str) (t:Tok):(Value.str x t).isStr y=(x==y):=rfl
set_option tactic.hygienic true in
theorem FRel.get {n:Nat} {x:Str} (ex:T.sym[n]?=some x) {l:List (Nat×MV)} {m:MV}:∀{es:List DictEntry},FRel cx h l es→l.lookup n=some m→∃v,getL x es=some (some v)∧VRel cx.sy h m v:=by
 induction l with
 |nil=>intro es _ q;cases q
 |cons p l ih=>
  intro es r q
  refine u2o r fun e r' y t z1 ey ek eh v r2=>?_
  subst z1
  have q:(match n==p.1 with|true=>some p.2|false=>l.lookup n)=some m:=q
  by_cases z:n=p.1
  ·rw [beq_iff_eq.mpr z]at q
   cases q
   rw [←z,ex]at ey;cases ey
   refine⟨e.val,?_,v⟩
   unfold getL
   rw [List.find?_cons,ek,u6s,beq_self_eq_true]
  ·rw [beq_eq_false_iff_ne.mpr z]at q
   refine u0d (ih r2 q) fun v' g rv=>⟨v',?_,rv⟩
   have ne:x≠y:=fun w=>by subst w;exact z (u7d cx ex ey)
   unfold getL at g ⊢
   rw [List.find?_cons,ek,u6s,beq_eq_false_iff_ne.mpr (Ne.symm ne)]
   simp only
   split at g
   ·rename_i e' he';first|exact g|(rw [he'];exact g)
   ·cases hh:r'.any (·.refKey)<;>rw [hh]at g<;>simp at g
theorem FRel.miss {n:Nat} {x:Str} (ex:T.sym[n]?=some x) {l:List (Nat×MV)}:∀{es:List DictEntry},FRel cx h l es→l.lookup n=none→es.find? (·.key.isStr x)=none:=by
 induction l with
 |nil=>intro es r _;have r:es=[]:=r;rw [r];rfl
 |cons p l ih=>
  intro es r q
  refine u2o r fun e r' y t z1 ey ek eh v r2=>?_
  subst z1
  have q:(match n==p.1 with|true=>some p.2|false=>l.lookup n)=none:=q
  by_cases z:n=p.1
  ·rw [beq_iff_eq.mpr z]at q;cases q
  ·rw [beq_eq_false_iff_ne.mpr z]at q
   rw [List.find?_cons,ek,u6s,beq_eq_false_iff_ne.mpr fun w=>z (u7d cx ex (by rw [←w];exact ey))]
   exact ih r2 q
theorem FRel.missL {n:Nat} {x:Str} (ex:T.sym[n]?=some x) {l:List (Nat×MV)} {es:List DictEntry} (r:FRel cx h l es) (q:l.lookup n=none):getL x es=some none:=by
 unfold getL
 rw [r.miss ex q]
 simp only
 rw [r.refKeys];rfl
theorem FRel.put {n:Nat} {x:Str} (ex:T.sym[n]?=some x) {m:MV} {v:Value} (rv:VRel cx.sy h m v) (tk:Tok) {l:List (Nat×MV)}:∀{es:List DictEntry},FRel cx h l es→
  FRel cx h (putN n m l) (putL x (PyData.keyHash cx.w.params x) (.str x tk) v es):=by
 induction l with
 |nil=>
  intro es r
  have r:es=[]:=r
  subst r
  exact⟨_,_,x,tk,rfl,ex,rfl,rfl,rv,rfl⟩
 |cons p l ih=>
  intro es r
  refine u2o r fun e r' y t z1 ey ek eh v' r2=>?_
  subst z1
  rw [u3u];unfold putL
  rw [ek,u6s]
  by_cases z:p.1=n
  ·have z2:y=x:=by rw [z,ex]at ey;cases ey;rfl
   subst z2
   rw [if_pos z,beq_self_eq_true,if_pos rfl]
   exact⟨_,_,y,t,rfl,ex,rfl,eh,rv,r2⟩
  ·have ne:y≠x:=fun w=>by subst w;exact z (u7d cx ey ex)
   rw [if_neg z,beq_eq_false_iff_ne.mpr ne,if_neg Bool.false_ne_true]
   exact⟨_,_,y,t,rfl,ey,ek,eh,v',ih r2⟩
theorem FRel.length {l:List (Nat×MV)}:∀{es:List DictEntry},FRel cx h l es→es.length=l.length:=by
 induction l with
 |nil=>intro es r;have r:es=[]:=r;rw [r];rfl
 |cons p l ih=>intro es r;refine u2o r fun e r' y t z1 _ _ _ _ r=>?_;rw [z1];exact congrArg Nat.succ (ih r)
theorem u8u (n:Nat) (m:MV) (l:List (Nat×MV)):(putN n m l).length≤l.length+1:=by
 induction l with
 |nil=>exact Nat.le_refl _
 |cons p l ih=>
  rw [u3u]
  split
  ·exact Nat.le_succ _
  ·exact Nat.succ_le_succ ih
theorem v8p {a dx C:Addr} {es:List DictEntry} {n:Nat} (e:h.get? a=some (instObj C dx)) (ed:h.get? dx=some (dictOf es n)):InstAt h a (instObj C dx) C (some (dictOf es n)):=⟨e,rfl,rfl,ed⟩
theorem VRel.handed {m:MV} {u:Value} (rv:VRel cx.sy h m u):handedIn u=true:=by
 cases m<;>first
  |(rw [rv.none_inv];rfl)|(rw [rv.bool_inv];rfl)|(refine u0i rv.int_inv fun _ zz6=>?_;subst zz6;rfl)|(refine u1m rv.sym_inv fun _ _ _ zz8=>?_;subst zz8;rfl)|(refine u0i rv.txt_inv fun _ zz11=>?_;subst zz11;rfl)
  |(refine u7o rv.tup_inv fun _ _ _ zz15 _=>?_;subst zz15;rfl)|(rw [rv.ref_inv];rfl)|(refine u0a rv.con_inv fun zz24 z=>?_;subst zz24;exact z)
theorem w9u (I:Inv cx fs own σ h) {a C:Addr} {l:List (Nat×MV)} {n:Nat} {x:Str} {ex:Bool} {m:MV} {R:Value→Shared→Prop} (hx:T.sym[n]?=some x) (hs:σ a=some (.exc C l)) (ok:T.okExc C n=true)
  (hl:l.lookup n=some m) (k:∀u t',VRel cx.sy h m u→R u (cx.mk' h t')):wpAny (model cx.prog cx.w) A (getAttr (.ref a) x ex) R E (cx.mk' h t):=by
 obtain⟨y,cd,ey,hc,hd,hm,hrf,hsa,ht,hga,hx0,hsub,hq⟩:=cx.excs C n ok
 rw [hx]at ey;cases ey
 refine u0i hq fun q hq=>?_
 refine u0a (I.objs a _ hs) fun _ zz25=>?_
 refine u1b zz25 fun od vs sl e tb rr=>?_
 rcases rr with⟨rfl,rfl⟩|⟨dx,es,nn,rfl,od',ne,ed,fr⟩
 ·cases hl
 refine u0d (fr.get hx hl) fun u gl rv=>?_
 have II:InstAt h a ⟨.ref C,some dx,.fields vs,sl⟩ C (some (dictOf es nn)):=⟨e,rfl,rfl,ed⟩
 have hh:hasDictIn cx.K C=true:=by unfold hasDictIn;rw [hc];exact hd
 have L0:=II.type (M:=model cx.prog cx.w)
 have L1:=looks_findIn (M:=model cx.prog cx.w) I.K hga
 have L2:=looks_findIn (M:=model cx.prog cx.w) I.K hq
 have LF:=looks_find (M:=model cx.prog cx.w) I.K II (findObj_own hh hx0 rfl gl)
 have sub:Looks (model cx.prog cx.w) h (isInstance (.ref a) (.type "BaseException")) true:=L0.andThen (looks_subIn I.K hsub)
 have SG:=F.excAttr_ValueError.ga
 have hx0:(ex && onTheHeap (Value.builtin "BaseException.__getattribute__"))=false:=by cases ex<;>rfl
 unfold getAttr getAttrBy
 refine wpAny_bind (wpAny_mkText (wpAny_holding (wpAny_bind (L0.at (wpAny_bind (L1.at ?_))))))
 have hx2:(Value.builtin "BaseException.__getattribute__" ==Value.builtin "object.__getattribute__")=false:=by decide+kernel
 dsimp only
 rw [hx2,Bool.and_false,if_neg (by decide)]
 unfold getAttrByItsOwn hookBefore
 refine wpAny_bind ?_
 rw [show onTheHeap (.ref C)=true from rfl,if_pos rfl]
 refine L2.at (wpAny_bind (wpAny_attempt (wpAny_holding ?_)))
 unfold callGetattribute
 rw [hx0,if_neg (by decide)]
 unfold boundAndCalled
 rw [SG.bind]
 refine wpAny_bind (wpAny_pure ?_)
 refine wpAny_call (codeAny_call_builtin SG.plain F.entry_bexc_ga (@check_slot (model cx.prog cx.w) _ _ _ "BaseException.__getattribute__" "BaseException" "__getattribute__" (.ref a) [.str x t] [] _ (by decide+kernel) (by decide+kernel) sub (F.args_bexc_ga _ _) ?_))
 unfold Builtin.«object.__getattribute__»
 refine wpAny_bind (wpAny_pure (wpAny_bind (wpAny_pure (wpAny_bind (L0.at (wpAny_bind (LF.at ?_)))))))
 refine wpAny_pure ?_
 show wpAny _ _ (handedOut u) _ _ _
 rw [handedOut_of rv.handed]
 exact wpAny_pure (k u _ rv)
set_option tactic.hygienic true in
theorem v1l (I:Inv cx fs own σ h) {o:MV} {v:Value} {n:Nat} {x:Str} {ex:Bool} {Q:MV→Prop} {R:Value→Shared→Prop} (hx:T.sym[n]?=some x) (ro:VRel cx.sy h o v) (q:v3c T o n σ Q)
  (k:∀m u t',VRel cx.sy h m u→Q m→R u (cx.mk' h t')):wpAny (model cx.prog cx.w) A (getAttr v x ex) R E (cx.mk' h t):=by
 obtain⟨a,C,fs',m,rfl,hl,q,⟨hs,ok⟩|⟨hs,ok⟩⟩:=q
 ·obtain rfl:=ro.ref_inv
  refine w0z (cx.plain C n ok) fun y ey pg hh zz26 _=>?_
  refine u0d zz26 fun at_ ha hn=>?_
  obtain rfl:=Option.some.inj (hx.symm.trans ey)
  refine u0a (I.objs a _ hs) fun _ zz27=>?_
  refine v2p zz27 fun dx es nn e od ne ed fr=>?_
  refine u0d (fr.get hx hl) fun u gl rv=>?_
  exact get_value (s:=cx.mk' h t) I.K (v8p e ed) (plainGet_of pg).1 (findObj_own hh ha hn gl) rv.handed (k m u _ rv q)
 ·obtain rfl:=ro.ref_inv
  exact w9u I hx hs ok hl fun u t' rv=>k m u t' rv q
theorem v3t {x C:Addr} {ox:Obj} {od:Option Obj} {name:Str} {tk:Tok} {v:Value} {cd:ClassData} {s:Shared} {R:Result→Shared→Prop} (X:cx.K.In s.heap) (I:InstAt s.heap x ox C od) (hc:clsIn cx.K C=some cd)
  (hm:mroIn cx.K C (.type "object")=some true) (hrf:∀self,refuseLoop self "__setattr__" cd.mro=pure ()) (ht:takerIn cx.K C name=some none)
  (k:∀b,wpAny (model cx.prog cx.w) A.in1 (storeInOwnDict (.ref x) (.ref C) (.str name tk) name v b)
   (fun fin s'=>match fin with|.done f=>R (.ok f) s'|.again c'=>c'.quiet=true∧codeAny (model cx.prog cx.w) A c' R s') (fun e s'=>R (.error e) s') s):
  codeAny (model cx.prog cx.w) A (.call (.builtin "object.__setattr__") ⟨[.ref x,.str name tk,v],[]⟩) R s:=by
 have SF:=PySem.F.store_object
 have sub:Looks (model cx.prog cx.w) s.heap (isInstance (.ref x) (.type "object")) true:=I.type.andThen (looks_mroIn X hm)
 refine codeAny_call_builtin SF.slot.plain SF.entry (@check_slot (model cx.prog cx.w) _ _ s "object.__setattr__" "object" "__setattr__" (.ref x) [.str name tk,v] [] _ SF.kind SF.split sub (SF.args (.ref x) (.str name tk) v) ?_)
 refine u0d (Option.bind_eq_some_iff.mp ht) fun attr ha hr=>?_
 have hmr:Looks (model cx.prog cx.w) s.heap (mroOf (.ref C)) cd.mro:=(looks_clsIn X hc).andThen .now
 have L3:Looks (model cx.prog cx.w) s.heap (storeTaker? attr) none:=by
  cases attr with
  |none=>exact .now
  |some a=>
   refine u0d (Option.map_eq_some_iff.mp hr) fun b hb e=>?_
   refine(looks_takesIn X hb).andThen ?_
   cases b
   ·exact .now
   ·cases e
 rw [osa_eq,refuse_eq]
 refine wpAny_bind (wpAny_bind (I.type.here (wpAny_bind (hmr.here ?_))))
 rw [hrf]
 refine wpAny_pure (wpAny_bind (I.type.here (wpAny_bind ((looks_findIn X ha).here (wpAny_bind (L3.here ?_))))))
 exact k _
set_option tactic.hygienic true in
theorem v3u {x dx C:Addr} {name:Str} {tk:Tok} {v:Value} {es:List DictEntry} {n t:Nat} {R:Result→Shared→Prop} {oc:Value} {dt:Data} {sl:Array (Option Value)} {cd:ClassData} (X:cx.K.In h)
  (I:InstAt h x ⟨oc,some dx,dt,sl⟩ C (some (dictOf es n))) (hc:clsIn cx.K C=some cd)
  (hm:mroIn cx.K C (.type "object")=some true) (hrf:∀self,refuseLoop self "__setattr__" cd.mro=pure ()) (hd:cd.hasDict=true)
  (ht:takerIn cx.K C name=some none)
  (hl:(getL name es).isSome=true) (hz:(putL name (PyData.keyHash cx.w.params name) (.str name t) v es).length≤1000)
  (k:R (.ok (.ret .none)) (cx.mk' (h.update dx (Obj.putName name (PyData.keyHash cx.w.params name) (.str name t) v)) (t+1))):
  codeAny (model cx.prog cx.w) A (.call (.builtin "object.__setattr__") ⟨[.ref x,.str name tk,v],[]⟩) R (cx.mk' h t):=by
 refine v3t (s:=cx.mk' h t) X I hc hm hrf ht fun b=>?_
 obtain⟨hx,hcl,hn,D⟩:=I
 dsimp only at hcl D
 subst hcl
 refine wpAny_bind (wpAny_pure (wpAny_bind (wpAny_bind (wpAny_loadPart hx (wpAny_bind ((looks_clsIn X hc).here ?_))))))
 rw [hd]
 refine wpAny_pure (a:=some dx) (wpAny_bind (wpAny_pure (wpAny_bind ?_)))
 unfold nsSet
 refine wpAny_bind (wpAny_bind (wpAny_askSetting (wpAny_pure (wpAny_bind (wpAny_mkText (wpAny_bind (wpAny_loadPart D ?_)))))))
 have hl':=hl
 unfold getL at hl'
 have c:(!es.toArray.any (·.key.isStr name) && es.toArray.any (·.refKey))=false:=by
  rw [←Array.any_toList,←Array.any_toList]
  split at hl'
  ·rename_i en he
   rw [List.any_eq_true.mpr ⟨en,List.mem_of_find?_eq_some he,List.find?_some he⟩];rfl
  ·split at hl'
   ·cases hl'
   ·rename_i z;rw [Bool.not_eq_true]at z;rw [z,Bool.and_false]
 dsimp only [dictOf]
 rw [aRefKeyMayBeTheName_at,c]
 have D':(h.update dx (Obj.putName name (PyData.keyHash cx.w.params name) (.str name t) v)).get? dx=some (dictOf (putL name (PyData.keyHash cx.w.params name) (.str name t) v es) (W.putN name es n)):=by
  have:=Heap.get?_update_self (Obj.putName name (PyData.keyHash cx.w.params name) (.str name t) v) D (by rw [putName_dict];rfl)
  rw [this,putName_dict]
 refine wpAny_updatePart D ?_
 refine wpAny_bind (wpAny_lookBehind D' (by exact pastItsLine_dict (by rw [List.size_toArray,sizeLine_eq];lia)) ?_)
 exact wpAny_pure k
theorem w3t {x C:Addr} {name:Str} {tk:Tok} {v:Value} {t:Nat} {R:Result→Shared→Prop} {vs:Array Value} {sl:Array (Option Value)} {cd:ClassData} (X:cx.K.In h)
  (hx:h.get? x=some ⟨.ref C,none,.fields vs,sl⟩) (hc:clsIn cx.K C=some cd)
  (hm:mroIn cx.K C (.type "object")=some true) (hrf:∀self,refuseLoop self "__setattr__" cd.mro=pure ()) (hd:cd.hasDict=true)
  (ht:takerIn cx.K C name=some none)
  (k:R (.ok (.ret .none)) (cx.mk' (((h.push (dictOf [] 0)).update x fun o=>{o with dict:=some h.objs.size}).update h.objs.size (Obj.putName name (PyData.keyHash cx.w.params name) (.str name t) v)) (t+1))):
  codeAny (model cx.prog cx.w) A (.call (.builtin "object.__setattr__") ⟨[.ref x,.str name tk,v],[]⟩) R (cx.mk' h t):=by
 have I:InstAt h x ⟨.ref C,none,.fields vs,sl⟩ C none:=⟨hx,rfl,rfl,trivial⟩
 refine v3t (s:=cx.mk' h t) X I hc hm hrf ht fun b=>?_
 refine wpAny_bind (wpAny_pure (wpAny_bind (wpAny_bind (wpAny_loadPart hx (wpAny_bind ((looks_clsIn X hc).here ?_))))))
 rw [hd]
 have hx1:(h.push (dictOf [] 0)).get? x=some ⟨.ref C,none,.fields vs,sl⟩:=Heap.get?_push_of_some _ hx
 have D:((h.push (dictOf [] 0)).update x fun o=>{o with dict:=some h.objs.size}).get? h.objs.size=some (dictOf [] 0):=by
  rw [Heap.get?_update_other _ _ (Nat.ne_of_lt (Heap.lt_size hx))]
  exact Heap.get?_push_size h rfl
 refine wpAny_bind (wpAny_alloc (wpAny_bind (wpAny_update hx1 (wpAny_bind (wpAny_pure ?_)))))
 refine wpAny_pure (a:=some h.objs.size) (wpAny_bind (wpAny_pure (wpAny_bind ?_)))
 unfold nsSet
 refine wpAny_bind (wpAny_bind (wpAny_askSetting (wpAny_pure (wpAny_bind (wpAny_mkText (wpAny_bind (wpAny_loadPart D ?_)))))))
 dsimp only [dictOf]
 have c:aRefKeyMayBeTheName name ([]:List DictEntry).toArray=false:=by rw [aRefKeyMayBeTheName_at];simp
 rw [c]
 have D':(((h.push (dictOf [] 0)).update x fun o=>{o with dict:=some h.objs.size}).update h.objs.size (Obj.putName name (PyData.keyHash cx.w.params name) (.str name t) v)).get? h.objs.size=some (dictOf (putL name (PyData.keyHash cx.w.params name) (.str name t) v []) (W.putN name [] 0)):=by
  have:=Heap.get?_update_self (Obj.putName name (PyData.keyHash cx.w.params name) (.str name t) v) D (by rw [putName_dict];rfl)
  rw [this,putName_dict]
 refine wpAny_updatePart D ?_
 refine wpAny_bind (wpAny_lookBehind D' (by exact pastItsLine_dict (by rw [List.size_toArray,sizeLine_eq];show 1≤16777216+1;decide)) ?_)
 exact wpAny_pure k
noncomputable def u4m (own:Addr→Option Addr) (d a:Addr):Addr→Option Addr:=fun b=>if b=d then some a else own b
theorem v1c (I:Inv cx fs own σ h) {d a:Addr} (e:h.get? d=none):OwnExt own (u4m own d a) h∧∀b y,u4m own d a b=some y→own b=some y∨y=a:=by
 refine u0a (I.fresh e) fun _ n=>?_
 refine⟨⟨fun b y q=>?_,fun b y q=>?_⟩,fun b y q=>?_⟩
 ·unfold u4m
  by_cases z:b=d
  ·subst z;rw [n]at q;cases q
  ·rw [if_neg z];exact q
 ·unfold u4m at q
  by_cases z:b=d
  ·subst z;exact .inr ⟨n,e⟩
  ·rw [if_neg z]at q;exact .inl q
 ·unfold u4m at q
  by_cases z:b=d
  ·rw [if_pos z]at q;exact .inr (Option.some.inj q).symm
  ·rw [if_neg z]at q;exact .inl q
theorem w5z {a b:String} (n:a≠b) {P:Prop} (e:Value.type a=Value.type b):P:=absurd (by cases e;rfl) n
set_option tactic.hygienic true in
theorem u6l (I:Inv cx fs own σ h) {o m:MV} {ov v:Value} {n:Nat} {x:Str} {K:Hp→Prop} (hx:T.sym[n]?=some x) (ro:VRel cx.sy h o ov) (rv:VRel cx.sy h m v) (q:u3h T o n m σ K):
  wpAny (model cx.prog cx.w) A (setAttr ov x v) (Pst cx fs X own h (UQ K)) E (cx.mk' h t):=by
 obtain⟨a,C,l,rfl,hz,q⟩:=q
 ·obtain rfl:=ro.ref_inv
  rcases q with⟨hs,ok,q⟩|⟨hs,ok,q⟩
  ·skip
   obtain⟨y,ey,pg,hh,⟨at_,ha,hn⟩,hsa,ht,hp⟩:=cx.plain C n ok
   rw [hx]at ey;cases ey
   obtain⟨oa,dx,es,nn,e,od,ne,ed,fr⟩:=I.objs a _ hs
   refine u0d (any_some hh) fun cd hc hd=>?_
   refine u0d (any_some hp) fun cd' hc' ho=>?_
   rw [hc]at hc';cases hc'
   have nem:cd.mro.isEmpty=false:=by cases q:cd.mro with|nil=>rw [q]at ho;cases ho|cons _ _=>rfl
   refine set_plain (s:=cx.mk' h t) I.K (v8p e ed) hsa (v3u (t:=t+1) I.K (v8p e ed) hc (by unfold mroIn;rw [hc,Option.bind_some,if_neg (by rw [nem];decide),only_has ho]) (fun self=>refuse_only self ho) hd ht ?_ ?_ ?_)
   ·cases q':l.lookup n with
    |none=>rw [fr.missL hx q'];rfl
    |some m'=>refine u0d (fr.get hx q') fun _ z _=>?_;rw [z];rfl
   ·have:=(fr.put hx rv (t+1)).length
    rw [this]
    have:=u8u n m l
    lia
   ·have ed':=Heap.get?_update_self (Obj.putName x (PyData.keyHash cx.w.params x) (.str x (t+1)) v) ed (by rw [putName_dict];rfl)
    rw [putName_dict]at ed'
    have oth:∀b,b≠dx→(h.update dx (Obj.putName x (PyData.keyHash cx.w.params x) (.str x (t+1)) v)).get? b=h.get? b:=fun b nb=>Heap.get?_update_other _ _ (Ne.symm nb)
    obtain⟨I',k⟩:=I.store (h':=h.update dx (Obj.putName x (PyData.keyHash cx.w.params x) (.str x (t+1)) v)) (mo':=.inst C (putN n m l)) hs
     (fun b o e1 e2=>(oth b fun z=>by subst z;exact e2 od).trans e1)
     (fun b o eb g=>by
      by_cases z:b=dx
      ·subst z;rw [ed]at g;cases g;exact⟨_,ed',rfl⟩
      ·exact⟨o,(oth b z).trans g,rfl⟩)
     (fun tk=>⟨dx,_,_,(oth a (Ne.symm ne)).trans e,od,ne,ed',(fr.tk tk).put hx (rv.tk tk) (t+1)⟩)
    exact⟨_,t+2,_,_,rfl,I',.refl ..,k.mono fun _ z=>z.elim,q⟩
  ·skip
   obtain⟨y,cd,ey,hc,hd,hm,hrf,hsa,ht,_⟩:=cx.excs C n ok
   rw [hx]at ey;cases ey
   obtain⟨oa,od,vs,sl,e,tb,r⟩:=I.objs a _ hs
   refine Or.elim r (fun zz511=>?_) (fun zz512=>?_)
   ·obtain⟨rfl,rfl⟩:=zz511
    refine set_plain (s:=cx.mk' h t) (od:=none) I.K ⟨e,rfl,rfl,trivial⟩ hsa (w3t (t:=t+1) I.K e hc hm hrf hd ht ?_)
    have ha:=Heap.lt_size e
    have hne:a≠h.objs.size:=Nat.ne_of_lt ha
    have hx1:(h.push (dictOf [] 0)).get? a=some ⟨.ref C,none,.fields vs,sl⟩:=Heap.get?_push_of_some _ e
    have D:((h.push (dictOf [] 0)).update a fun o=>{o with dict:=some h.objs.size}).get? h.objs.size=some (dictOf [] 0):=by
     rw [Heap.get?_update_other _ _ hne]
     exact Heap.get?_push_size h rfl
    have D':=Heap.get?_update_self (Obj.putName x (PyData.keyHash cx.w.params x) (.str x (t+1)) v) D (by rw [putName_dict];rfl)
    rw [putName_dict]at D'
    have A1:((h.push (dictOf [] 0)).update a fun o=>{o with dict:=some h.objs.size}).get? a=some ⟨.ref C,some h.objs.size,.fields vs,sl⟩:=Heap.get?_update_self (fun o:Obj=>{o with dict:=some h.objs.size}) hx1 rfl
    have A2:(((h.push (dictOf [] 0)).update a fun o=>{o with dict:=some h.objs.size}).update h.objs.size (Obj.putName x (PyData.keyHash cx.w.params x) (.str x (t+1)) v)).get? a=some ⟨.ref C,some h.objs.size,.fields vs,sl⟩:=by
     rw [Heap.get?_update_other _ _ (Ne.symm hne)];exact A1
    have oth:∀b o,b≠a→h.get? b=some o→(((h.push (dictOf [] 0)).update a fun o=>{o with dict:=some h.objs.size}).update h.objs.size (Obj.putName x (PyData.keyHash cx.w.params x) (.str x (t+1)) v)).get? b=some o:=fun b o nb eb=>by
     rw [Heap.get?_update_other _ _ (Nat.ne_of_gt (Heap.lt_size eb)),Heap.get?_update_other _ _ (Ne.symm nb)]
     exact Heap.get?_push_of_some _ eb
    refine u0a (v1c (a:=a) I (get?_size h)) fun x1 x2=>?_
    have fr:FRel cx h [] []:=rfl
    obtain⟨I',k⟩:=I.upd (mo:=.exc C (putN n m [])) x1 x2 (fun b o e1 e2=>oth b o (fun z=>by subst z;exact e2 oa) e1)
     (fun b eb=>by
      by_cases z:b=h.objs.size
      ·subst z;exact⟨u1r I,_,D',v4w⟩
      ·unfold u4m at eb
       rw [if_neg z]at eb
       refine u0a (I.ownd b a eb) fun z1 zz32=>?_
       refine u0d zz32 fun o g c=>?_
       by_cases z2:b=a
       ·subst z2;exact⟨z1,_,A2,w7i C⟩
       ·exact⟨z1,o,oth b o z2 g,c⟩)
     (fun b o eb g=>by
      by_cases z2:b=a
      ·subst z2;rw [e]at g;cases g;exact⟨_,A2,rfl⟩
      ·exact⟨o,oth b o z2 g,rfl⟩) (x1.up _ _ oa)
     (fun tk=>⟨some h.objs.size,vs,sl,A2,by
       refine Or.elim tb (fun zz513=>?_) (fun zz514=>?_)
       ·obtain⟨tb,tn⟩:=zz513
        refine .inl ⟨tb,fun t' o' q' g'=>?_⟩
        by_cases z:t'=h.objs.size
        ·subst z;rw [D']at g';cases g';exact fun z=>w5z (by decide) z
        ·unfold u4m at q'
         rw [if_neg z]at q'
         by_cases z2:t'=a
         ·subst z2;rw [A2]at g';cases g';intro z;cases z
         ·refine u0a (I.ownd t' a q') fun _ zz33=>?_
          refine u0d zz33 fun o2 g2 _=>?_
          have:=oth t' o2 z2 g2
          rw [g']at this;cases this
          exact tn t' o' q' g2
       ·obtain⟨t',ot,ts,e1,e2,e3,e4,e5,e6⟩:=zz514
        exact .inr ⟨t',ot,ts,e1,x1.up _ _ e2,e3,oth t' ot e3 e4,e5,e6⟩,.inr ⟨h.objs.size,_,_,rfl,by unfold u4m;rw [if_pos rfl],Ne.symm hne,D',(show FRel cx _ [] []from rfl).put hx (rv.tk tk) (t+1)⟩⟩)
    exact⟨_,t+2,_,_,rfl,I',x1,k.mono fun _ z=>z.elim,q⟩
   ·obtain⟨dx,es,nn,rfl,od,ne,ed,fr⟩:=zz512
    have IA:InstAt h a ⟨.ref C,some dx,.fields vs,sl⟩ C (some (dictOf es nn)):=⟨e,rfl,rfl,ed⟩
    refine set_plain (s:=cx.mk' h t) I.K IA hsa (v3u (t:=t+1) I.K IA hc hm hrf hd ht ?_ ?_ ?_)
    ·cases q':l.lookup n with
     |none=>rw [fr.missL hx q'];rfl
     |some m'=>refine u0d (fr.get hx q') fun _ z _=>?_;rw [z];rfl
    ·have:=(fr.put hx rv (t+1)).length
     rw [this]
     have:=u8u n m l
     lia
    ·have ed':=Heap.get?_update_self (Obj.putName x (PyData.keyHash cx.w.params x) (.str x (t+1)) v) ed (by rw [putName_dict];rfl)
     rw [putName_dict]at ed'
     have oth:∀b,b≠dx→(h.update dx (Obj.putName x (PyData.keyHash cx.w.params x) (.str x (t+1)) v)).get? b=h.get? b:=fun b nb=>Heap.get?_update_other _ _ (Ne.symm nb)
     have tbn:∀t' ot ts,own t'=some a→h.get? t'=some ot→ot.data=.fields ts→t'≠dx:=fun t' ot ts _ g c z=>by
      subst z;rw [ed]at g;cases g;cases c
     obtain⟨I',k⟩:=I.store (h':=h.update dx (Obj.putName x (PyData.keyHash cx.w.params x) (.str x (t+1)) v)) (mo':=.exc C (putN n m l)) hs
      (fun b o e1 e2=>(oth b fun z=>by subst z;exact e2 od).trans e1)
      (fun b o eb g=>by
       by_cases z:b=dx
       ·subst z;rw [ed]at g;cases g;exact⟨_,ed',rfl⟩
       ·exact⟨o,(oth b z).trans g,rfl⟩)
      (fun tk=>⟨some dx,vs,sl,(oth a (Ne.symm ne)).trans e,by
       refine Or.elim tb (fun zz515=>?_) (fun zz516=>?_)
       ·obtain⟨tb,tn⟩:=zz515
        refine .inl ⟨tb,fun t' o' q' g'=>?_⟩
        by_cases z:t'=dx
        ·subst z;rw [ed']at g';cases g';exact fun z=>w5z (by decide) z
        ·exact tn t' o' q' ((oth t' z).symm.trans g')
       ·obtain⟨t',ot,ts,e1,e2,e3,e4,e5,e6⟩:=zz516
        exact .inr ⟨t',ot,ts,e1,e2,e3,(oth t' (tbn t' ot ts e2 e4 e5)).trans e4,e5,e6⟩,.inr ⟨dx,_,_,rfl,od,ne,ed',(fr.tk tk).put hx (rv.tk tk) (t+1)⟩⟩)
     exact⟨_,t+2,_,_,rfl,I',.refl ..,k.mono fun _ z=>z.elim,q⟩
end
end Mine
end
section
open PySem PySem.W PyProof.Rows PySem.Builtin.ObjectAttr
set_option maxRecDepth 20000
namespace Mine
section
variable {T:Tab} {cx:Cx T} {fs:List Env} {own:Addr→Option Addr} {σ:Hp} {h:Heap} {A:Around} {t:Nat} {E:Value→Shared→Prop} {Q:MV→Hp→Prop} {X:Addr→Prop}
theorem u2r {a:Addr} {ys:List Value} {n:Nat} (e:h.get? a=some (listOf ys.toArray n)):h.IsList a ys.toArray:=⟨_,e,rfl,n,rfl⟩
theorem v0d {a:Addr} {ys:List Value} {n:Nat} (e:h.get? a=some (u0z ys n)):IsTup h a ys.toArray:=⟨_,e,rfl,n,rfl⟩
end
section
variable {prog:Program} {w:World} {A:Around} {E:Value→Shared→Prop} {s:Shared}
theorem w0h (n:Nat):Builtin.Slice.slicePlaces ((n:Int)- 1) (-1) (-1)=n:=by
 unfold Builtin.Slice.slicePlaces
 rw [if_neg (by decide),show(- -1:Int)=1 by decide,Int.ediv_one]
 split<;>lia
theorem x1m (xs:Array Value):((List.range xs.size).filterMap fun(k:Nat)=>xs[(((xs.size:Int)- 1)+(k:Int)*(-1)).toNat]?)=xs.toList.reverse:=by
 have e:(List.range xs.size).map (fun k:Nat=>(((xs.size:Int)- 1)+(k:Int)*(-1)).toNat)=(List.range xs.size).reverse:=by
  rw [←krv_range]
  exact List.map_congr_left fun k hk=>by
   have:=List.mem_range.mp hk
   lia
 rw [←krv_all,←List.filterMap_reverse,←e,List.filterMap_map]
 rfl
theorem u7i {t sl:Addr} {items:Array Value} {u:Tok} {Q:Value→Shared→Prop} (ht:IsTup s.heap t items) (hs:s.heap.IsSliceOf sl .none .none (.int (-1) u)) (hsz:items.size≤sizeLine)
  (h:Q (.ref s.heap.objs.size) {s with heap:=s.heap.push {cls:=.type "tuple",data:=.seq items.toList.reverse.toArray}}):wpAny (model prog w) A (getItem (.ref t) (.ref sl)) Q E s:=by
 refine u1e (id hs) fun os hos hcs hds=>?_
 have hTs:s.TypeIs (.ref sl) "slice":=⟨os,hos,hcs⟩
 unfold getItem
 refine wpAny_holding ?_
 refine wpAny_bind (wpAny_sequenceKey ht.typeIs (by decide) ?_)
 refine wpAny_bind (wpAny_callSpecial?_slot (name:=Str.ofString "__getitem__") ht.typeIs slot_tuple_getitem
  (wpAny_call_entry slot_tuple_getitem ht.typeIs entry_tuple_getitem ?_ (args_tuple_getitem _ _)))
 show wpAny _ _ (Builtin.Tuple.tupleItemsOf (.ref t)>>=_) _ _ s
 refine wpAny_bind (tupleItemsOf_ ht ?_)
 refine wpAny_bind (wpAny_typeOf hTs ?_)
 rw [if_pos (by decide)]
 refine wpAny_bind ?_
 ·unfold Builtin.Slice.sliceApplied Builtin.Slice.sliceFields
  refine wpAny_bind (wpAny_bind (wpAny_field hos hds (x:=.none) rfl (wpAny_bind (wpAny_field hos hds (x:=.none) rfl (wpAny_bind (wpAny_field hos hds (x:=.int (-1) u) rfl (wpAny_pure ?_)))))))
  refine wpAny_bind (slicePart_int ?_)
  show wpAny _ _ (if((-1:Int)==0)=true then _ else _) _ _ s
  rw [if_neg (by decide)]
  refine wpAny_bind (slicePart_none (wpAny_bind (slicePart_none (wpAny_bind (wpAny_pure ?_)))))
  show wpAny _ _ (pure (((items.size:Int)- 1),(-1:Int),Builtin.Slice.slicePlaces ((items.size:Int)- 1) (-1) (-1))) _ _ s
  rw [w0h]
  refine wpAny_pure ?_
  show wpAny _ _ (if(_ && (-1:Int)==1 && _)=true then _ else _) _ _ s
  rw [show((-1:Int)==1)=false by decide,Bool.and_false,Bool.false_and,if_neg Bool.false_ne_true,x1m]
  have hdrop:sizeOk (.seq items.toList.reverse.toArray):=by
   show items.toList.reverse.toArray.size≤sizeLine
   rw [List.size_toArray,List.length_reverse,Array.length_toList];exact hsz
  first
   |exact wpAny_bind (m:=Builtin.Tuple.tupleExact _) (wpAny_newObj_type (wpAny_pure ⟨_,rfl,wpAny_pure h⟩) hdrop)
   |exact wpAny_bind (m:=Builtin.Tuple.tupleExact _) (wpAny_newObj_type (wpAny_bind (wpAny_pure (wpAny_pure ⟨_,rfl,wpAny_pure h⟩))) hdrop)
   |exact wpAny_bind (wpAny_bind (m:=Builtin.Tuple.tupleExact _) (wpAny_newObj_type (wpAny_pure (wpAny_pure ⟨_,rfl,wpAny_pure h⟩)) hdrop))
   |exact wpAny_bind (wpAny_bind (m:=Builtin.Tuple.tupleExact _) (wpAny_newObj_type (wpAny_pure ⟨_,rfl,wpAny_pure h⟩) hdrop))
end
section
variable {T:Tab} {cx:Cx T} {fs:List Env} {own:Addr→Option Addr} {σ:Hp} {h:Heap} {A:Around} {t:Nat} {E:Value→Shared→Prop} {Q:MV→Hp→Prop} {X:Addr→Prop}
set_option tactic.hygienic true in
theorem w0o (I:Inv cx fs own σ h) {o:MV} {ov:Value} {n:Nat} {x:Str} {pl:Sem Bool} {K:Value→List MV→Prop} {R:Value×List Value→Shared→Prop} (hx:T.sym[n]?=some x) (ro:VRel cx.sy h o ov) (q:v0b T o n σ K)
  (k:∀f ms vs t',u5s cx.K f=true→u0j cx.sy h ms vs→K f ms→R (f,vs) (cx.mk' h t')):wpAny (model cx.prog cx.w) A (getMethod ov x pl) R E (cx.mk' h t):=by
 have ck:∀f,keepIn cx.K f=true→u5s cx.K f=true:=fun f e=>by unfold u5s;rw [e];rfl
 have cb:∀id,u5s cx.K (.builtin id)=true:=fun id=>by unfold u5s;simp
 have one:∀a,u0j cx.sy h [.ref a] [.ref a]:=fun a=>.cons (.mk_ref a) .nil
 rcases q with⟨C,f,rfl,hf,q⟩|⟨a,rfl,q⟩
 ·refine w0z (cx.clsAttrs C n f hf) fun y ey sg rd fc kf=>?_
  rw [hx]at ey;cases ey
  have:=ro.con_inv.1;subst this
  exact method_cls (s:=cx.mk' h t) I.K sg (cls_value (s:=cx.mk' h t) I.K rd fc rfl (k _ _ _ _ (ck _ kf) .nil q))
 ·obtain rfl:=ro.ref_inv
  rcases q with⟨C,l,f,hs,hn,hf,q⟩|⟨l,hs,q⟩|⟨kvs,hs,rfl,q⟩
  ·refine w0z (cx.meths C n f hf) fun y ey pg ff fn kf=>?_
   rw [hx]at ey;cases ey
   refine u0a (I.objs a _ hs) fun oa zz1=>?_
   refine v2p zz1 fun dx es nn e od ne ed fr=>?_
   refine method_fn (s:=cx.mk' h t) I.K (v8p e ed) (plainGet_of pg).1 (plainGet_of pg).2 ff (beq_iff_eq.mp fn) ?_ (k _ _ _ _ (ck _ kf) (one a) q)
   show(lookIn x (dictOf es nn)).map _=_
   rw [lookIn_dict,fr.missL hx hn];rfl
  ·refine u0a (I.objs a _ hs) fun oa zz2=>?_
   refine u1m zz2 fun ys nn e r=>?_
   have nd:∀a',Value.ref a=.ref a'→∃o,(cx.mk' h t).heap.get? a'=some o∧o.dict=none:=fun a' z=>by cases z;exact⟨_,e,rfl⟩
   rcases q with⟨rfl,q⟩|⟨rfl,q⟩|⟨rfl,q⟩
   ·rw [show T.sym[w3d]?=some (Str.ofString "append")from cx.s0]at hx
    cases hx
    exact getMethod_builtin (s:=cx.mk' h t) (T:="list") ⟨_,e,rfl⟩ PySem.F.plainAttrs_list PySem.F.slot_list_append PySem.F.type_list_append nd (k _ _ _ _ (cb _) (one a) q)
   ·rw [show T.sym[sPop]?=some (Str.ofString "pop")from cx.s1]at hx
    cases hx
    exact getMethod_builtin (s:=cx.mk' h t) (T:="list") ⟨_,e,rfl⟩ PySem.F.plainAttrs_list PySem.F.slot_list_pop PySem.F.type_list_pop nd (k _ _ _ _ (cb _) (one a) q)
   ·rw [show T.sym[v7w]?=some (Str.ofString "reverse")from cx.s2]at hx
    cases hx
    exact getMethod_builtin (s:=cx.mk' h t) (T:="list") ⟨_,e,rfl⟩ PySem.F.plainAttrs_list PySem.F.slot_list_reverse PySem.F.type_list_reverse nd (k _ _ _ _ (cb _) (one a) q)
  ·refine u0a (I.objs a _ hs) fun oa zz3=>?_
   refine u0a zz3 fun hsys zz501=>?_
   obtain⟨l,D,r⟩:=zz501
   rw [show T.sym[sGet]?=some (Str.ofString "get")from cx.s3]at hx
   cases hx
   exact getMethod_builtin (s:=cx.mk' h t) D.typeIs PySem.F.plainAttrs_dict PySem.F.slot_dict_get PySem.F.type_dict_get D.mapOf.noDict (k _ _ _ _ (cb _) (one a) q)
theorem u8f {value slice:Expr} {o i:Value} {T' id:String} {ops:List Value} {s:Shared} {R:Value→Shared→Prop} {prog:Program} {w:World} (hT:s.TypeIs o T') (hl:typeLookup (.type T') "__getitem__" =pure (some (.builtin id)))
  (h:wpAny (model prog w) A (getItem o i) R E s) (hs:subscripted slice false o i=operate ops (getItem o i)):wpAny (model prog w) A (subscriptTail value slice o i) R E s:=
 kba_turn (value':=.Name (Str.ofString "_") ⟨0,0,0,0⟩) (fun _=>rfl) (subscriptTail_ops hT hl h hs fun _=>rfl)
theorem u9y {i:Int} {n j:Nat} (e:u9z i n=some j):seqIndex? i n=some j:=by
 unfold u9z at e
 unfold seqIndex?
 by_cases h0:0≤i
 ·rw [if_pos h0]at e
  have h0':¬i<0:=by lia
  rw [if_neg h0']
  by_cases h1:i<n
  ·rw [if_pos h1]at e
   simp only [h0,h1,decide_true,Bool.and_self,if_true];exact e
  ·rw [if_neg h1]at e;cases e
 ·rw [if_neg h0]at e
  have h0':i<0:=by lia
  rw [if_pos h0']
  by_cases h1:0≤i+n
  ·rw [if_pos h1]at e
   have h2:i+n<n:=by lia
   simp only [h1,h2,decide_true,Bool.and_self,if_true];exact e
  ·rw [if_neg h1]at e;cases e
theorem w7e {i:Int} {n j:Nat} (e:u9z i n=some j):j<n∧-(n:Int)≤i∧i<n:=by
 unfold u9z at e
 by_cases h0:0≤i
 ·rw [if_pos h0]at e
  by_cases h1:i<n
  ·rw [if_pos h1]at e;cases e;lia
  ·rw [if_neg h1]at e;cases e
 ·rw [if_neg h0]at e
  by_cases h1:0≤i+n
  ·rw [if_pos h1]at e;cases e;lia
  ·rw [if_neg h1]at e;cases e
theorem KvS.get (cx:Cx T) {n:Nat} {x:Str} (ex:T.sym[n]?=some x) {kvs:List (Nat×MV)} {m:MV}:∀{l:List (Str×Value)},KvS cx.sy h kvs l→kvs.lookup n=some m→∃v,valueAt l x=some v∧VRel cx.sy h m v:=by
 induction kvs with
 |nil=>intro l _ q;cases q
 |cons p kvs ih=>
  intro l r q
  refine u7n r fun y v l' ey z1 rv r2=>?_
  subst z1
  have q:(match n==p.1 with|true=>some p.2|false=>kvs.lookup n)=some m:=q
  by_cases z:n=p.1
  ·rw [beq_iff_eq.mpr z]at q
   cases q
   rw [←z,ex]at ey;cases ey
   exact⟨v,by unfold valueAt;rw [List.find?_cons,decide_eq_true rfl];rfl,rv⟩
  ·rw [beq_eq_false_iff_ne.mpr z]at q
   refine u0d (ih r2 q) fun v' g rv'=>⟨v',?_,rv'⟩
   unfold valueAt
   rw [List.find?_cons,decide_eq_false (fun w=>z (u7d cx ex (w▸ey)):¬y=x)]
   exact g
set_option tactic.hygienic true in
theorem v4f (I:Inv cx fs own σ h) {o i:MV} {ov iv:Value} {R:Value→Shared→Prop} (ro:VRel cx.sy h o ov) (ri:VRel cx.sy h i iv) (q:u4h o i σ Q)
  (k:∀m v t',VRel cx.sy h m v→Q m σ→R v (cx.mk' h t')):(∃T' id,(cx.mk' h t).TypeIs ov T'∧typeLookup (.type T') "__getitem__" =pure (some (.builtin id)))∧wpAny (model cx.prog cx.w) A (getItem ov iv) R E (cx.mk' h t):=by
 cases o with
 |tup xs=>
  refine u1b ro.tup_inv fun a ys n zz5 g r=>?_
  subst zz5
  refine u0d (w7o q) fun j zz6 q=>?_
  subst zz6
  refine u0i ri.int_inv fun u zz7=>?_
  subst zz7
  refine u0a (w7l q) fun hj zz8=>?_
  refine u0d zz8 fun x e2 q=>?_
  refine u0d (r.get e2) fun v ev rv=>?_
  have e1:u9z (j:Int) xs.length=some j:=by
   have hl:j<xs.length:=(List.getElem?_eq_some_iff.mp e2).1
   unfold u9z;rw [if_pos (by lia),if_pos (by lia)];simp
  refine⟨⟨_,_,(v0d g).typeIs,slot_tuple_getitem.lookup⟩,PyProof.Rows.getItem_tuple (v0d g) (by show(-_:Int)≤(j:Int);lia) (by show(j:Int)<_;lia) (j:=j) (x:=v) ?_ ?_ (k _ _ _ rv q)⟩
  ·rw [List.size_toArray,r.length];exact u9y e1
  ·simpa using ev
 |ref a=>
 obtain rfl:=ro.ref_inv
 rcases q with⟨j,xs,jj,x,rfl,⟨b1,b2⟩,hs',e1,e2,q⟩|⟨n,kvs,m,rfl,hs',e1,q⟩
 ·refine u0i ri.int_inv fun u zz9=>?_
  subst zz9
  refine u0a (I.objs a _ hs') fun oa zz10=>?_
  refine u1m zz10 fun ys n g r=>?_
  refine u0d (r.get e2) fun v ev rv=>?_
  have lt:=w7e e1
  have hlen:=r.length
  refine⟨⟨_,_,(u2r g).typeIs,PySem.slot_list_getitem.lookup⟩,?_⟩
  by_cases h0:0≤j
  ·refine wpAny_getItem_list (s:=cx.mk' h t) (u2r g) h0 (by lia) (x:=v) ?_ (k _ _ _ rv q)
   unfold u9z at e1
   rw [if_pos h0,if_pos lt.2.2]at e1
   cases e1
   simpa using ev
  ·refine wpAny_getItem_list_neg (s:=cx.mk' h t) (u2r g) (by lia) (by rw [List.size_toArray];lia) (by lia) (x:=v) ?_ (k _ _ _ rv q)
   unfold u9z at e1
   rw [if_neg h0,if_pos (by lia)]at e1
   cases e1
   rw [List.size_toArray,hlen]
   simpa using ev
 ·refine u1m ri.sym_inv fun x u ex zz11=>?_
  subst zz11
  refine u0a (I.objs a _ hs') fun oa zz12=>?_
  refine u0d zz12 fun l D r=>?_
  obtain⟨v,ev,rv⟩:=r.get cx ex e1
  exact⟨⟨_,_,D.typeIs,PySem.slot_dict_getitem.lookup⟩,wpAny_getItem_of (strKind_is cx.prog cx.w x u) D.mapOf ev (k _ _ _ rv q)⟩
 |_=>exact q.elim
theorem w0q (I:Inv cx fs own σ h) {o i:MV} {ov iv:Value} {value slice:Expr} {R:Value→Shared→Prop} (hns:∀a b c d,slice≠ .Slice a b c d) (ro:VRel cx.sy h o ov) (ri:VRel cx.sy h i iv) (q:u4h o i σ Q)
  (k:∀m v t',VRel cx.sy h m v→Q m σ→R v (cx.mk' h t')):wpAny (model cx.prog cx.w) A (subscriptTail value slice ov iv) R E (cx.mk' h t):=by
 obtain⟨⟨_,_,hT,hl⟩,w⟩:=v4f (A:=A) (E:=E) I ro ri q k
 refine u8f hT hl w (ops:=[ov,iv]) ?_
 cases slice<;>first|rfl|exact absurd rfl (hns _ _ _ _)
theorem mn {x:Int} (h:0≤x) (n:Nat):min x (n:Int)=((min x.toNat n:Nat):Int):=by
 refine u0i (Int.eq_ofNat_of_zero_le h) fun k zz14=>?_
 subst zz14
 rw [Int.toNat_natCast];lia
theorem w3p (ys:List Value) {y:Int} (h0:0≤y):slicePick ys.toArray none (some y) none=(ys.take y.toNat).toArray:=by
 have e:sliceBounds none (some y) none ys.toArray.size=(((0:Nat):Int),((min y.toNat ys.toArray.size:Nat):Int),1):=by
  simp only [sliceBounds,Option.getD_none,show(1:Int)>0 by decide,if_true,if_neg (Int.not_lt.mpr h0)]
  rw [mn h0];rfl
 rw [kmk_pick_nat _ e]
 show((ys.drop 0).take (min y.toNat ys.toArray.size- 0)).toArray=_
 rw [List.drop_zero,Nat.sub_zero,List.size_toArray,kmk_take_min]
theorem w0j (ys:List Value) {x:Int} (h0:0≤x):slicePick ys.toArray (some x) none none=(ys.drop x.toNat).toArray:=by
 have e:sliceBounds (some x) none none ys.toArray.size=(((min x.toNat ys.toArray.size:Nat):Int),((ys.toArray.size:Nat):Int),1):=by
  simp only [sliceBounds,Option.getD_none,show(1:Int)>0 by decide,if_true,if_neg (Int.not_lt.mpr h0)]
  rw [mn h0,Int.max_eq_right (Int.natCast_nonneg _)]
 rw [kmk_pick_nat _ e]
 show((ys.drop (min x.toNat ys.toArray.size)).take (ys.toArray.size- min x.toNat ys.toArray.size)).toArray=_
 rw [List.size_toArray,kmk_drop_min,List.take_of_length_le (by rw [List.length_drop];exact Nat.sub_le_sub_left (Nat.min_le_left _ _) _)]
theorem w3q (ys:List Value) {x y:Int} (h0:0≤x) (h1:0≤y):slicePick ys.toArray (some x) (some y) none=((ys.take y.toNat).drop x.toNat).toArray:=by
 have e:sliceBounds (some x) (some y) none ys.toArray.size=(((min x.toNat ys.toArray.size:Nat):Int),((min y.toNat ys.toArray.size:Nat):Int),1):=by
  simp only [sliceBounds,Option.getD_none,show(1:Int)>0 by decide,if_true,if_neg (Int.not_lt.mpr h0),if_neg (Int.not_lt.mpr h1)]
  rw [mn h0,mn h1,Int.max_eq_right (Int.natCast_nonneg _),Int.max_eq_right (Int.natCast_nonneg _)]
 rw [kmk_pick_nat _ e]
 show((ys.drop (min x.toNat ys.toArray.size)).take (min y.toNat ys.toArray.size- min x.toNat ys.toArray.size)).toArray=_
 rw [List.size_toArray,kmk_drop_min,List.drop_take]
 congr 1
 by_cases hx:x.toNat≤ys.length
 ·by_cases hy:y.toNat≤ys.length
  ·rw [Nat.min_eq_left hx,Nat.min_eq_left hy]
  ·rw [Nat.min_eq_left hx,Nat.min_eq_right (by lia),List.take_of_length_le (by rw [List.length_drop];lia),List.take_of_length_le (by rw [List.length_drop];lia)]
 ·rw [List.drop_of_length_le (by lia)];simp
set_option tactic.hygienic true in
theorem w9h {lo hi:MV} {lv hv:Value} {xs:List MV} {ys:List Value} {K:List MV→Prop} (r:u0j cx.sy h xs ys) (rl:VRel cx.sy h lo lv) (rh:VRel cx.sy h hi hv) (q:cutL lo hi xs K):
  ∃l u zs us,IsPart lv l∧IsPart hv u∧slicePick ys.toArray l u none=us.toArray∧u0j cx.sy h zs us∧K zs:=by
 refine or3 q (fun zz521=>?_) (fun zz522=>?_) (fun zz523=>?_)
 ·obtain⟨y,rfl,rfl,q1,q⟩:=zz521
  refine u0i rh.int_inv fun t zz15=>?_
  subst zz15
  obtain rfl:=rl.none_inv
  exact⟨none,some y,_,_,.none,.int _ _,w3p ys q1,r.take _,q⟩
 ·obtain⟨x,rfl,rfl,q1,q⟩:=zz522
  refine u0i rl.int_inv fun t zz16=>?_
  subst zz16
  obtain rfl:=rh.none_inv
  exact⟨some x,none,_,_,.int _ _,.none,w0j ys q1,r.drop _,q⟩
 ·obtain⟨x,y,rfl,rfl,q1,q2,q⟩:=zz523
  refine u0i rl.int_inv fun t zz17=>?_
  subst zz17
  refine u0i rh.int_inv fun t' zz18=>?_
  subst zz18
  exact⟨some x,some y,_,_,.int _ _,.int _ _,w3q ys q1 q2,(r.take _).drop _,q⟩
theorem v8o {sy:Sy} {vs:List Value} {ns:List Int} (r:IntsAre vs ns):u0j sy h (ns.map MV.int) vs:=by
 induction r with
 |nil=>exact .nil
 |cons i t _ ih=>exact .cons (.mk_int i t) ih
noncomputable def u1s (l u s:Value):Obj:={cls:=.type "slice",data:=.fields #[l,u,s]}
set_option tactic.hygienic true in
theorem v6b (I:Inv cx fs own σ h) {o lo hi:MV} {ov lv hv:Value} {value:Expr} {la lb:Option Expr} {p:Pos} (ro:VRel cx.sy h o ov) (rl:VRel cx.sy h lo lv) (rh:VRel cx.sy h hi hv) (q:u8p o lo hi σ Q):
  wpAny (model cx.prog cx.w) A (subscriptTail value (.Slice la lb none p) ov (.ref h.objs.size)) (Pst cx fs X own h (VQ cx Q)) E (cx.mk' (h.push (u1s lv hv .none)) t):=by
 refine u0a (I.push_any (u1s lv hv .none)) fun I1 k1=>?_
 have tk:=I.tk0 k1
 have hs:∀o,subscripted (.Slice la lb none p) false o (.ref h.objs.size)=operate [.ref h.objs.size,o] (getItem o (.ref h.objs.size)):=fun _=>rfl
 have hsl:(h.push (u1s lv hv .none)).IsSliceOf h.objs.size lv hv .none:=Heap.IsSliceOf.new ..
 have aux:∀(a:Addr) (ys:List Value) (xs:List MV),h.IsList a ys.toArray→u0j cx.sy h xs ys→xs.length≤u0t→cutL lo hi xs (fun ys=>newP (.list ys) σ Q)→
   wpAny (model cx.prog cx.w) A (subscriptTail value (.Slice la lb none p) (.ref a) (.ref h.objs.size)) (Pst cx fs X own h (VQ cx Q)) E (cx.mk' (h.push (u1s lv hv .none)) t):=fun a ys xs g r hz q=>by
  refine x8d (w9h r rl rh q) fun l u zs us pl pu e rz q=>?_
  have g1:(h.push (u1s lv hv .none)).IsList a ys.toArray:=let ⟨o,e,c⟩:=g;⟨o,Heap.get?_push_of_some _ e,c⟩
  refine u8f (s:=cx.mk' (h.push (u1s lv hv .none)) t) g1.typeIs PySem.slot_list_getitem.lookup (wpAny_getItem_list_slice g1 hsl pl pu .none (by simp) ?_ ?_) (hs _)
  ·rw [e]
   exact Pst.up (.refl ..) (k1.mono fun _ z=>z.elim) (u8j (cx:=cx) (X:=X) (t:=t) I1 (rz.tk tk) q)
  ·rw [List.size_toArray,r.length,sizeLine_eq];exact hz
 refine Or.elim q (fun zz524=>?_) (fun zz525=>?_)
 ·obtain⟨xs,l,rfl,rfl,rfl,⟨h1,h2,h3⟩,q⟩:=zz524
  refine u1b ro.tup_inv fun a ys n zz19 g r=>?_
  subst zz19
  ·refine u0i rl.int_inv fun u zz20=>?_
   subst zz20
   rw [rh.none_inv]at hsl ⊢
   rw [rh.none_inv]at I1 k1 tk
   obtain⟨k,rfl⟩:∃k:Nat,l=k:=⟨l.toNat,by lia⟩
   have g1:=Heap.get?_push_of_some (u1s (.int k u) .none .none) g
   have hlen:=r.length
   refine u8f (s:=cx.mk' (h.push (u1s (.int k u) .none .none)) t) (v0d g1).typeIs slot_tuple_getitem.lookup (getItem_tuple_from (v0d g1) hsl (by lia) (by rw [List.size_toArray];lia) ?_ ?_) rfl
   ·have z:=u8w (cx:=cx) (X:=X) (t:=t) I1 ((r.drop k).tk tk) q
    exact Pst.up (.refl ..) (k1.mono fun _ z=>z.elim) z
   ·rw [List.size_toArray,hlen,sizeLine_eq];exact h3
 ·obtain⟨a,xs,rfl,hz,hs',q⟩:=zz525
  obtain rfl:=ro.ref_inv
  rcases hs' with hs'|⟨ns,hs',rfl⟩
  ·refine u0a (I.objs a _ hs') fun oa zz21=>?_
   obtain⟨ys,n,g,r⟩:=zz21
   exact aux a ys xs (u2r g) r hz q
  ·refine u0d (I.frz hs') fun vs g r=>?_
   exact aux a vs _ g (v8o r) hz q
theorem w3g (I:Inv cx fs own σ h) {o:MV} {ov:Value} {u:Nat} {value x:Expr} {p:Pos} (ro:VRel cx.sy h o ov) (q:revP o fun m=>Q m σ):
  wpAny (model cx.prog cx.w) A (subscriptTail value (.Slice none none (some x) p) ov (.ref h.objs.size)) (Pst cx fs X own h (VQ cx Q)) E (cx.mk' (h.push (u1s .none .none (.int (-1) u))) t):=by
 refine u0a (I.push_any (u1s .none .none (.int (-1) u))) fun I1 k1=>?_
 have tk:=I.tk0 k1
 have hsl:(h.push (u1s .none .none (.int (-1) u))).IsSliceOf h.objs.size .none .none (.int (-1) u):=Heap.IsSliceOf.new ..
 cases o with
 |tup xs=>
  refine u0a q fun hz q=>?_
  refine u1b ro.tup_inv fun a ys n zz22 g r=>?_
  subst zz22
  have g1:=Heap.get?_push_of_some (u1s .none .none (.int (-1) u)) g
  refine u8f (s:=cx.mk' (h.push (u1s .none .none (.int (-1) u))) t) (v0d g1).typeIs slot_tuple_getitem.lookup (u7i (v0d g1) hsl ?_ ?_) rfl
  ·rw [List.size_toArray,r.length,sizeLine_eq];exact hz
  ·exact Pst.up (.refl ..) (k1.mono fun _ z=>z.elim) (u8w (cx:=cx) (X:=X) (t:=t) I1 (r.reverse.tk tk) q)
 |_=>exact q.elim
theorem v0y {K:Type} [DecidableEq K] {l:List (K×Value)} {x:K} {u v:Value} (nd:(((x,u)::l).map (·.1)).Nodup):stored ((x,u)::l) x v=(x,v)::l:=by
 rw [List.map_cons,List.nodup_cons]at nd
 unfold stored
 rw [if_pos (by simp),List.map_cons,if_pos rfl]
 congr 1
 conv=>rhs;rw [←List.map_id l]
 refine List.map_congr_left fun kv hm=>?_
 rw [if_neg fun e=>nd.1 (List.mem_map.mpr ⟨kv,hm,e⟩)];rfl
theorem u8m {K:Type} [DecidableEq K] {l:List (K×Value)} {x y:K} {u v:Value} (z:y≠x):stored ((y,u)::l) x v=(y,u)::stored l x v:=by
 unfold stored
 rw [List.any_cons,decide_eq_false z,Bool.false_or]
 by_cases w:(l.any fun kv=>decide (kv.1=x))=true
 ·rw [if_pos w,if_pos w,List.map_cons,if_neg z]
 ·rw [if_neg w,if_neg w];rfl
theorem KvI.put {k:Int} {m:MV} {v:Value} (rv:VRel cx.sy h m v) {kvs:List (Int×MV)}:∀{l:List (Int×Value)},KvI cx.sy h kvs l→(l.map (·.1)).Nodup→KvI cx.sy h (putI k m kvs) (stored l k v):=by
 induction kvs with
 |nil=>intro l r _;have r:l=[]:=r;subst r;exact⟨v,[],rfl,rv,rfl⟩
 |cons p kvs ih=>
  intro l r nd
  refine u1c r fun u l' z1 ru r2=>?_
  subst z1
  rw [w3l]
  by_cases z:p.1=k
  ·subst z
   rw [if_pos rfl,v0y nd]
   exact⟨v,l',rfl,rv,r2⟩
  ·rw [if_neg z,u8m z]
   exact⟨u,_,rfl,ru,ih r2 (List.nodup_cons.mp nd).2⟩
theorem KvI.length {kvs:List (Int×MV)} {l:List (Int×Value)} (r:KvI cx.sy h kvs l):l.length=kvs.length:=by
 induction kvs generalizing l with
 |nil=>rw [show l=[]from r];rfl
 |cons x kvs ih=>exact u1c r fun u l' e _ r=>e▸congrArg (· +1) (ih r)
theorem KvS.length {kvs:List (Nat×MV)}:∀{l:List (Str×Value)},KvS cx.sy h kvs l→l.length=kvs.length:=by
 induction kvs with
 |nil=>intro l r;have r:l=[]:=r;rw [r];rfl
 |cons p kvs ih=>intro l r;refine u7n r fun x u l' _ z _ r2=>?_;rw [z];exact congrArg Nat.succ (ih r2)
theorem KvS.put (cx:Cx T) {n:Nat} {x:Str} (ex:T.sym[n]?=some x) {m:MV} {v:Value} (rv:VRel cx.sy h m v) {kvs:List (Nat×MV)}:∀{l:List (Str×Value)},KvS cx.sy h kvs l→(l.map (·.1)).Nodup→KvS cx.sy h (putN n m kvs) (stored l x v):=by
 induction kvs with
 |nil=>intro l r _;have r:l=[]:=r;subst r;exact⟨x,v,[],ex,rfl,rv,rfl⟩
 |cons p kvs ih=>
  intro l r nd
  refine u7n r fun y u l' ey z1 ru r2=>?_
  subst z1
  rw [u3u]
  by_cases z:p.1=n
  ·have z2:y=x:=by rw [z,ex]at ey;cases ey;rfl
   subst z2
   rw [if_pos z,v0y nd]
   exact⟨y,v,l',ex,rfl,rv,r2⟩
  ·rw [if_neg z,u8m (fun w=>z (u7d cx (w▸ey) ex):y≠x)]
   exact⟨y,u,_,ey,rfl,ru,ih r2 (List.nodup_cons.mp nd).2⟩
set_option tactic.hygienic true in
theorem u6m (I:Inv cx fs own σ h) {o i m:MV} {ov iv v:Value} {K:Hp→Prop} (ro:VRel cx.sy h o ov) (ri:VRel cx.sy h i iv) (rv:VRel cx.sy h m v) (q:u5b o i m σ K):
  wpAny (model cx.prog cx.w) A (setItem ov iv v) (Pst cx fs X own h (UQ K)) E (cx.mk' h t):=by
 obtain⟨a,rfl,q⟩:=q
 obtain rfl:=ro.ref_inv
 ·rcases q with⟨j,xs,rfl,hs,h0,hm,hl,q⟩|⟨j,kvs,rfl,hs,hz,q⟩|⟨n,kvs,rfl,hs,hz,q⟩
  ·obtain⟨u,rfl⟩:=ri.int_inv
   refine u0a (I.objs a _ hs) fun oa zz29=>?_
   refine u1m zz29 fun ys n g r=>?_
   have hlen:=r.length
   refine ki_setAt (s:=cx.mk' h t) g h0 (by lia) (by rw [List.size_toArray,hlen];exact hl) ?_
   have g':=Heap.get?_update_self (Obj.mapSeq (·.setIfInBounds j.toNat v)) g rfl
   have oth:∀b,b≠a→(h.update a (Obj.mapSeq (·.setIfInBounds j.toNat v))).get? b=h.get? b:=fun b nb=>Heap.get?_update_other _ _ (Ne.symm nb)
   have own1:∀b,own b=some a→b=a∨b≠a:=fun b _=>Decidable.em _
   obtain⟨I',k⟩:=I.store (h':=h.update a (Obj.mapSeq (·.setIfInBounds j.toNat v))) (mo':=.list (xs.set j.toNat m)) hs
    (fun b o e1 e2=>(oth b fun z=>by subst z;exact e2 oa).trans e1)
    (fun b o eb gg=>by
     by_cases z:b=a
     ·subst z;rw [g]at gg;cases gg;exact⟨_,g',rfl⟩
     ·exact⟨o,(oth b z).trans gg,rfl⟩)
    (fun tk=>⟨ys.set j.toNat v,_,by
     rw [g']
     show some (listOf (ys.toArray.setIfInBounds j.toNat v) _)=_
     rw [List.setIfInBounds_toArray],(r.tk tk).set _ (rv.tk tk)⟩)
   exact⟨_,t,_,_,rfl,I',.refl ..,k.mono fun _ z=>z.elim,q⟩
  ·obtain⟨u,rfl⟩:=ri.int_inv
   refine u0a (I.objs a _ hs) fun oa zz31=>?_
   refine u0a zz31 fun hsys zz511=>?_
   obtain⟨l,D,r⟩:=zz511
   have hD:=D
   refine w5k hD fun oo es ep g ex0 _ _ _ nd=>?_
   refine wpAny_setItem_pairs (s:=cx.mk' h t) (intKind_is cx.prog cx.w j u) D (fun h' D' sb=>?_) (by rw [r.length,sizeLine_eq];lia)
   have D2:=D'
   refine u1b D2 fun oo' es' ep' g' ex' _=>?_
   obtain⟨I',k⟩:=I.store (h':=h') (mo':=.dI (putI j m kvs)) hs
    (fun b o e1 e2=>(sb.2 b fun z=>by subst z;exact e2 oa).trans e1)
    (fun b o eb gg=>by
     by_cases z:b=a
     ·subst z;rw [g]at gg;cases gg;exact⟨_,g',by rw [ex'.1,ex0.1]⟩
     ·exact⟨o,(sb.2 b z).trans gg,rfl⟩)
    (fun tk=>⟨hsys,_,D',(r.tk tk).put (rv.tk tk) nd⟩)
   exact⟨_,t+1,_,_,rfl,I',.refl ..,k.mono fun _ z=>z.elim,q⟩
  ·obtain⟨x,u,ex,rfl⟩:=ri.sym_inv
   refine u0a (I.objs a _ hs) fun oa zz33=>?_
   refine u0d zz33 fun l D r=>?_
   have hD:=D
   refine w5k hD fun oo es ep g ex0 _ _ _ nd=>?_
   refine wpAny_setItem_pairs (s:=cx.mk' h t) (strKind_is cx.prog cx.w x u) D (fun h' D' sb=>?_) (by rw [r.length,sizeLine_eq];lia)
   have D2:=D'
   refine u1b D2 fun oo' es' ep' g' ex' _=>?_
   obtain⟨I',k⟩:=I.store (h':=h') (mo':=.dS (putN n m kvs)) hs
    (fun b o e1 e2=>(sb.2 b fun z=>by subst z;exact e2 oa).trans e1)
    (fun b o eb gg=>by
     by_cases z:b=a
     ·subst z;rw [g]at gg;cases gg;exact⟨_,g',by rw [ex'.1,ex0.1]⟩
     ·exact⟨o,(sb.2 b z).trans gg,rfl⟩)
    (fun tk=>⟨_,D',(r.tk tk).put cx ex (rv.tk tk) nd⟩)
   exact⟨_,t+1,_,_,rfl,I',.refl ..,k.mono fun _ z=>z.elim,q⟩
end
end Mine
end
section
open PySem PySem.W PyProof.Rows PySem.Builtin.ObjectAttr
set_option maxRecDepth 20000
namespace Mine
noncomputable abbrev Sc:=List (Str×Nat)
noncomputable abbrev Nm:=List (Str×NameKind)
structure EStat (env:Env) (nm:Nm):Prop where
 names:env.scope.names=nm
 kind:env.scope.kind=.function
 globals:env.globals=mainGlobals
 builtins:env.builtins=builtinsNs
section
variable {T:Tab} (cx:Cx T)
structure ERel (env:Env) (sc:Sc) (loc:Loc) (own:Addr→Option Addr) (h:Heap):Prop where
 ns:∃m,h.Ns env.locals m∧
  ∀x i mv,sc.lookup x=some i→loc[i]?=some (some mv)→env.kindOf x=some .local→∃v,m x=some v∧VRel cx.sy h mv v
 ownL:own env.locals=none
 baseL:cx.base.get? env.locals=none
 cells:∀x i,sc.lookup x=some i→(env.kindOf x=some .cell∨env.kindOf x=some .free)→∃c o vo,env.cells.lookup x=some c∧h.get? c=some o∧o.data=.cell vo∧own c=none∧cx.base.get? c=none∧
  c≠env.locals∧∀mv,loc[i]?=some (some mv)→∃v,vo=some v∧VRel cx.sy h mv v
 inj:∀x y c,env.cells.lookup x=some c→env.cells.lookup y=some c→x=y
 scInj:∀x y i,sc.lookup x=some i→sc.lookup y=some i→x=y
noncomputable def u2f (env:Env) (sc:Sc) (a:Addr):Prop:=a=env.locals∨∃x i,sc.lookup x=some i∧env.cells.lookup x=some a∧env.kindOf x=some .cell
end
section
variable {T:Tab} {cx:Cx T} {fs:List Env} {own own':Addr→Option Addr} {σ:Hp} {h h':Heap} {A:Around} {t:Nat} {E:Value→Shared→Prop} {Q:MV→Hp→Prop} {X:Addr→Prop} {env:Env} {sc:Sc} {nm:Nm} {loc:Loc}
theorem ERel.keep (R:ERel cx env sc loc own h) (x:OwnExt own own' h) (k:Keep fs own noX h h') (tk:TK cx.sy h h'):ERel cx env sc loc own' h':=by
 obtain⟨⟨m,ns,l⟩,oL,bL,cells,inj,scInj⟩:=R
 refine⟨⟨m,k.ns ns oL (fun z=>z),fun x i mv h1 h2 h3=>?_⟩,?_,bL,fun x i h1 h2=>?_,inj,scInj⟩
 ·refine u0d (l x i mv h1 h2 h3) fun v h4 h5=>?_
  exact⟨v,h4,h5.tk tk⟩
 ·refine u7o ns fun o _ _ e _=>?_
  exact x.old e oL
 ·refine u7m (cells x i h1 h2) fun c o vo c1 c2 c3 c4 c5 c6 c8=>?_
  refine u1e (k.data c2 c4 (fun z=>z)) fun o' e' d' cc'=>?_
  refine⟨c,o',vo,c1,e',d'.trans c3,OwnExt.old ‹_› c2 c4,c5,c6,fun mv hm=>?_⟩
  refine u0d (c8 mv hm) fun v h4 h5=>?_
  exact⟨v,h4,h5.tk tk⟩
theorem w7p {M:Model} {R:Value→Shared→Prop} (S:EStat env nm) (W:ERel cx env sc loc own h) {x:Str} {i:Nat} {mv:MV} {pos:Pos} (hs:sc.lookup x=some i) (hk:env.kindOf x=some .local∨env.kindOf x=some .cell∨env.kindOf x=some .free)
  (hd:(x==("__debug__":Str))=false) (hc:(x==("__classdict__":Str))=false) (hl:loc[i]?=some (some mv)) (k:∀v,VRel cx.sy h mv v→R v (cx.mk' h t)):wpAny M A (eval (.Name x pos) env) R E (cx.mk' h t):=by
 refine wpAny_Name ?_ hd
 refine Or.elim hk (fun hk=>?_) (fun hk=>?_)
 ·refine u0d W.ns fun m ns l=>?_
  refine u0d (l x i mv hs hl hk) fun v h4 h5=>?_
  exact wpAny_loadName_local S.kind hk ns h4 (k v h5)
 ·refine u7m (W.cells x i hs hk) fun c o vo c1 c2 c3 c4 c5 c6 c8=>?_
  refine u0d (c8 mv hl) fun v zz1 h5=>?_
  subst zz1
  refine Or.elim hk (fun hk=>?_) (fun hk=>?_)
  ·exact wpAny_loadName_cell S.kind hk c1 ⟨o,c2,c3⟩ (k v h5)
  ·exact wpAny_loadName_free S.kind hk c1 ⟨o,c2,c3⟩ (k v h5) hc
noncomputable def u4q (K:Frag) (x:Str) (v:Value):Bool:=(nsIn K mainGlobals x==some (some v))||(nsIn K mainGlobals x==some none && bootBuiltins x==some v && x !="__name__")
theorem u6p {M:Model} {R:Value→Shared→Prop} (I:Inv cx fs own σ h) (S:EStat env nm) {x:Str} {v:Value} {pos:Pos} (hk:env.kindOf x=some .globalImplicit) (hd:(x==("__debug__":Str))=false)
  (hg:u4q cx.K x v=true) (k:R v (cx.mk' h t)):wpAny M A (eval (.Name x pos) env) R E (cx.mk' h t):=by
 unfold u4q at hg
 rw [Bool.or_eq_true]at hg
 have g:=I.top.g
 rw [←S.globals]at g
 refine Or.elim hg (fun hg=>?_) (fun hg=>?_)
 ·have e:=mg_of I.K I.top.g (beq_iff_eq.mp hg)
  exact Calls.Name_function_global S.kind hk (Calls.loadGlobal_global (env:=env) g e k) hd
 ·rw [Bool.and_eq_true,Bool.and_eq_true]at hg
  have e:=mg_none_of I.K I.top.g (beq_iff_eq.mp hg.1.1)
  have b:=I.top.b
  rw [←S.builtins]at b
  have hv:=(I.top.builtins x (bne_iff_ne.mp hg.2)).trans (beq_iff_eq.mp hg.1.2)
  exact Calls.Name_function_global S.kind hk (Calls.loadGlobal_builtin (env:=env) g e b hv k) hd
set_option tactic.hygienic true in
theorem u5x {R:Bool→Shared→Prop} {m:MV} {v:Value} {P:Bool→Prop} (r:VRel cx.sy h m v) (q:u1u m P) (k:∀b t',P b→R b (cx.mk' h t')):wpAny (model cx.prog cx.w) A (truthy v) R E (cx.mk' h t):=by
 cases m with
 |bool b=>obtain rfl:=r.bool_inv;exact wpAny_truthy_bool (k _ _ q)
 |int i=>
  refine u0i r.int_inv fun t' zz2=>?_
  subst zz2
  refine PyProof.Rows.truthy_int (k _ _ ?_)
  have e:(i !=0)=decide (i≠0):=by by_cases z:i=0<;>simp [z]
  rw [e];exact q
 |none=>obtain rfl:=r.none_inv;exact PyProof.Rows.truthy_none (k _ _ q)
 |_=>exact False.elim q
end
end Mine
end
section
open PySem PySem.W PyProof.Rows PySem.Builtin.ObjectAttr
set_option maxRecDepth 20000
namespace Mine
noncomputable def u9a (k:Option NameKind):Bool:=k==some .local||k==some .cell||k==some .free
noncomputable def v1x (x:Str):Bool:=!(x==("__debug__":Str)) && !(x==("__classdict__":Str))
noncomputable def exE {α:Type} (e:Expr) (d:α) (xBoolOp:List Expr→α:=fun _=>d) (xBinOp:Expr→Operator→Expr→α:=fun _ _ _=>d) (xUnaryOp:Expr→α:=fun _=>d) (xIfExp:Expr→Expr→Expr→α:=fun _ _ _=>d) (xSet:α:=d) (xListComp:Expr→List Comprehension→Scope→α:=fun _ _ _=>d) (xSetComp:α:=d) (xDictComp:α:=d) (xCompare:Expr→List CmpOp→List Expr→α:=fun _ _ _=>d) (xCall:Expr→List Expr→List Keyword→α:=fun _ _ _=>d) (xConstant:Const→α:=fun _=>d) (xAttribute:Expr→Str→α:=fun _ _=>d) (xSubscript:Expr→Expr→α:=fun _ _=>d) (xName:Str→α:=fun _=>d) (xList:List Expr→α:=fun _=>d) (xTuple:List Expr→α:=fun _=>d) (xSlice:Option Expr→Option Expr→Option Expr→α:=fun _ _ _=>d):α:=@Expr.casesOn (fun _=>α) e (fun _ a1 _=>xBoolOp a1) (fun _ _ _=>d) (fun a0 a1 a2 _=>xBinOp a0 a1 a2) (fun _ a1 _=>xUnaryOp a1) (fun _ _ _ _=>d) (fun a0 a1 a2 _=>xIfExp a0 a1 a2) (fun _ _ _=>d) (fun _ _ _=>xSet) (fun a0 a1 a2 _=>xListComp a0 a1 a2) (fun _ _ _ _=>xSetComp) (fun _ _ _ _ _=>xDictComp) (fun _ _ _ _=>d) (fun _ _=>d) (fun _ _=>d) (fun _ _=>d) (fun a0 a1 a2 _=>xCompare a0 a1 a2) (fun a0 a1 a2 _=>xCall a0 a1 a2) (fun _ _ _ _=>d) (fun _ _=>d) (fun a0 _ _=>xConstant a0) (fun a0 a1 _=>xAttribute a0 a1) (fun a0 a1 _=>xSubscript a0 a1) (fun _ _=>d) (fun a0 _=>xName a0) (fun a0 _=>xList a0) (fun a0 _ _=>xTuple a0) (fun a0 a1 a2 _=>xSlice a0 a1 a2)
noncomputable def x1z {α:Type} (l:List α):Bool:=match l with|[]=>true|_::_=>false
noncomputable def x6t (e:Expr):Bool:=exE e false (xName:=fun _=>true)
noncomputable def u6t (e:Expr):Bool:=exE e false (xCall:=fun g es kw=>x6t g && x1z es && x1z kw)
noncomputable def v6o (e:Expr):Bool:=exE e false (xSet:=true)
noncomputable def u3z (names nm:Nm):Nm:=names.map fun(n,k)=>if(k==.free && nm.lookup n==some .cell)then(n,.cell)else(n,k)
noncomputable def u2l (names:Nm) (tn:List Str) (ti:List Nat) (sc:Sc):Sc:=tn.zip ti++names.filterMap fun(n,k)=>if k==.free then(sc.lookup n).map fun i=>(n,i)else none
noncomputable def x5u (e:Expr):Option Str:=exE e none (xName:=fun x=>some x)
theorem w3y {e:Expr} {x:Str} (h:x5u e=some x):∃p,e=.Name x p:=by
 cases e with
 |Name y p=>cases h;exact⟨p,rfl⟩
 |_=>exact ns h
noncomputable def u6b:List Expr→Option (List Str)
 |[]=>some []
 |e::r=>(x5u e).bind fun x=>(u6b r).map fun l=>x::l
theorem u8y {tn:List Str} (h:u6b []=some tn):tn=[]:=(Option.some.inj h).symm
theorem u7r {e:Expr} {r:List Expr} {tn:List Str} (h:u6b (e::r)=some tn):∃x p l,e=.Name x p∧u6b r=some l∧tn=x::l:=by
 refine u0d (Option.bind_eq_some_iff.mp h) fun x e1 h=>?_
 refine u0d (Option.map_eq_some_iff.mp h) fun l e2 zz1=>?_
 subst zz1
 refine u0i (w3y e1) fun p zz2=>?_
 subst zz2
 exact⟨x,p,l,rfl,e2,rfl⟩
noncomputable def u0m (e:Expr):Option (List Str×Bool):=exE e none (xName:=fun x=>some ([x],true)) (xTuple:=fun es=>(u6b es).map fun l=>(l,false))
noncomputable def v1j (names nm:Nm) (tn:List Str) (ti:List Nat) (sc:Sc):Bool:=
 tn.length==ti.length && names.all (fun x=>x.2 !=.cell && (x.2 !=.local||names.lookup x.1==some .local)) &&
 names.all (fun x=>x.2 !=.free||((nm.lookup x.1==some .cell||nm.lookup x.1==some .free) && (sc.lookup x.1).isSome)) &&
 decide ((u2l names tn ti sc).map (·.2)).Nodup && decide ti.Nodup &&
 (u2l names tn ti sc).all (fun x=>(ti.contains x.2 && names.lookup x.1==some .local)||(names.any (fun y=>y.1==x.1 && y.2==.free) && names.lookup x.1==some .free && sc.lookup x.1==some x.2)) &&
 (tn.zip ti).all fun x=>(u2l names tn ti sc).lookup x.1==some x.2 && names.lookup x.1==some .local
noncomputable def tagE:Expr→Nat
 |.Constant k _ _=>match k with|.none=>1|.bool _=>2|.int _=>3|.str _=>4|_=>0
 |.Name _ _=>5
 |.Attribute _ _ _=>6
 |.Subscript _ _ _=>7
 |.Slice _ _ _ _=>8
 |.BinOp _ _ _ _=>9
 |.UnaryOp o _ _=>match o with|.Not=>10|.USub=>11|_=>0
 |.BoolOp o _ _=>match o with|.And=>12|.Or=>13
 |.Compare _ os rs _=>match os with|[]=>0|_::os=>match os with|[]=>(match rs with|[_]=>14|_=>0)|_::os=>match os with|[]=>(match rs with|[_,_]=>21|_=>0)|_::_=>0
 |.IfExp _ _ _ _=>15
 |.Tuple _ _ _=>16
 |.List _ _=>17
 |.Dict ks vs _=>match ks with|[]=>(match vs with|[]=>18|_::_=>0)|_::_=>22
 |.Call _ _ kw _=>match kw with|[]=>19|_::_=>0
 |.ListComp _ _ _ _=>20
 |_=>0
noncomputable def PE:List (Expr→Prop):=[fun _=>True,fun e=>∃p q,e=.Constant .none p q,fun e=>∃b p q,e=.Constant (.bool b) p q,fun e=>∃b p q,e=.Constant (.int b) p q,fun e=>∃b p q,e=.Constant (.str b) p q,
 fun e=>∃x p,e=.Name x p,fun e=>∃v a p,e=.Attribute v a p,fun e=>∃v s p,e=.Subscript v s p,fun e=>∃l u o p,e=.Slice l u o p,fun e=>∃l o r p,e=.BinOp l o r p,fun e=>∃x p,e=.UnaryOp .Not x p,fun e=>∃x p,e=.UnaryOp .USub x p,
 fun e=>∃x p,e=.BoolOp .And x p,fun e=>∃x p,e=.BoolOp .Or x p,fun e=>∃l o r p,e=.Compare l [o] [r] p,fun e=>∃t u v p,e=.IfExp t u v p,fun e=>∃es q p,e=.Tuple es q p,fun e=>∃es p,e=.List es p,fun e=>∃p,e=.Dict [] [] p,
 fun e=>∃g es p,e=.Call g es [] p,fun e=>∃el gs s p,e=.ListComp el gs s p,fun e=>∃l o o' r r' p,e=.Compare l [o,o'] [r,r'] p,fun e=>∃ks vs p,e=.Dict ks vs p]
noncomputable def PEat:Nat→List (Expr→Prop)→Expr→Prop
 |_,[],_=>True
 |0,p::_,e=>p e
 |n+1,_::l,e=>PEat n l e
theorem w2f (e:Expr):PEat (tagE e) PE e:=by
 cases e with
 |Constant k p q=>cases k with
  |none=>exact Exists.intro p (Exists.intro q rfl)
  |bool b=>exact Exists.intro b (Exists.intro p (Exists.intro q rfl))
  |int b=>exact Exists.intro b (Exists.intro p (Exists.intro q rfl))
  |str b=>exact Exists.intro b (Exists.intro p (Exists.intro q rfl))
  |_=>exact trivial
 |Name x p=>exact Exists.intro x (Exists.intro p rfl)
 |Attribute v a p=>exact Exists.intro v (Exists.intro a (Exists.intro p rfl))
 |Subscript v a p=>exact Exists.intro v (Exists.intro a (Exists.intro p rfl))
 |Slice l u o p=>exact Exists.intro l (Exists.intro u (Exists.intro o (Exists.intro p rfl)))
 |BinOp l o r p=>exact Exists.intro l (Exists.intro o (Exists.intro r (Exists.intro p rfl)))
 |UnaryOp o x p=>cases o with
  |Not=>exact Exists.intro x (Exists.intro p rfl)
  |USub=>exact Exists.intro x (Exists.intro p rfl)
  |_=>exact trivial
 |BoolOp o x p=>cases o with
  |And=>exact Exists.intro x (Exists.intro p rfl)
  |Or=>exact Exists.intro x (Exists.intro p rfl)
 |Compare l os rs p=>cases os with
  |nil=>exact trivial
  |cons o os=>cases os with
   |cons o' os=>cases os with
    |cons _ _=>exact trivial
    |nil=>cases rs with
     |nil=>exact trivial
     |cons r rs=>cases rs with
      |nil=>exact trivial
      |cons r' rs=>cases rs with
       |cons _ _=>exact trivial
       |nil=>exact Exists.intro l (Exists.intro o (Exists.intro o' (Exists.intro r (Exists.intro r' (Exists.intro p rfl)))))
   |nil=>cases rs with
    |nil=>exact trivial
    |cons r rs=>cases rs with
     |nil=>exact Exists.intro l (Exists.intro o (Exists.intro r (Exists.intro p rfl)))
     |cons _ _=>exact trivial
 |IfExp t u v p=>exact Exists.intro t (Exists.intro u (Exists.intro v (Exists.intro p rfl)))
 |Tuple es q p=>exact Exists.intro es (Exists.intro q (Exists.intro p rfl))
 |List es p=>exact Exists.intro es (Exists.intro p rfl)
 |Dict ks vs p=>cases ks with
  |cons k ks=>exact Exists.intro (k::ks) (Exists.intro vs (Exists.intro p rfl))
  |nil=>cases vs with
   |nil=>exact Exists.intro p rfl
   |cons _ _=>exact trivial
 |Call g es kw p=>cases kw with
  |nil=>exact Exists.intro g (Exists.intro es (Exists.intro p rfl))
  |cons _ _=>exact trivial
 |ListComp el gs s p=>exact Exists.intro el (Exists.intro gs (Exists.intro s (Exists.intro p rfl)))
 |_=>exact trivial
noncomputable def sub0 (e:Expr):Expr:=exE e e (xBinOp:=fun l _ _=>l) (xUnaryOp:=fun x=>x) (xIfExp:=fun t _ _=>t) (xListComp:=fun el _ _=>el) (xCompare:=fun l _ _=>l) (xCall:=fun g _ _=>g) (xAttribute:=fun v _=>v) (xSubscript:=fun v _=>v)
noncomputable def v2d (l:List Expr) (e:Expr):Expr:=match l with|x::_=>x|[]=>e
noncomputable def sub1 (e:Expr):Expr:=exE e e (xBinOp:=fun _ _ r=>r) (xIfExp:=fun _ x _=>x) (xCompare:=fun l _ rs=>v2d rs l) (xSubscript:=fun _ s=>s)
noncomputable def sub2 (e:Expr):Expr:=exE e e (xIfExp:=fun _ _ x=>x)
noncomputable def subs (e:Expr):List Expr:=exE e [] (xBoolOp:=fun x=>x) (xCall:=fun _ es _=>es) (xList:=fun x=>x) (xTuple:=fun x=>x)
noncomputable def strC (k:Const):Str:=match k with|.str x=>x|_=> ""
noncomputable def strE (e:Expr):Str:=exE e "" (xConstant:=fun k=>strC k) (xAttribute:=fun _ x=>x) (xName:=fun x=>x)
noncomputable def opE (e:Expr):Operator:=exE e .Add (xBinOp:=fun _ o _=>o)
noncomputable def x7n (l:List CmpOp):CmpOp:=match l with|o::_=>o|[]=>.Eq
noncomputable def cmpE (e:Expr):CmpOp:=exE e .Eq (xCompare:=fun _ os _=>x7n os)
noncomputable def opsE (e:Expr):List CmpOp:=exE e [] (xCompare:=fun _ os _=>os)
noncomputable def rsE (e:Expr):List Expr:=exE e [] (xCompare:=fun _ _ rs=>rs)
noncomputable def w5v (e:Expr):Const:=exE e .none (xConstant:=fun x=>x)
noncomputable def lowE (e:Expr):Option Expr:=exE e none (xSlice:=fun l _ _=>l)
noncomputable def upE (e:Expr):Option Expr:=exE e none (xSlice:=fun _ u _=>u)
noncomputable def x4p (e:Expr):Option Expr:=exE e none (xSlice:=fun _ _ o=>o)
noncomputable def x7p (e:Expr):List Comprehension:=exE e [] (xListComp:=fun _ gs _=>gs)
noncomputable def genE (e:Expr):Comprehension:=match x7p e with|g::_=>g|[]=>⟨e,e,[],0⟩
noncomputable def u8q (e:Expr):Scope:=exE e default (xListComp:=fun _ _ s=>s)
noncomputable def y7w (e:Expr):List (Option Expr):=match e with|.Dict ks _ _=>ks|_=>[]
noncomputable def x9q (e:Expr):List Expr:=match e with|.Dict _ vs _=>vs|_=>[]
noncomputable def m1E (o:Option Expr):Bool:=match o with|some x=>Nat.beq (tagE x) 11 && (Nat.beq (tagE (sub0 x)) 3 && (match w5v (sub0 x)with|.int c=>c==1|_=>false))|none=>false
noncomputable def v4c (sy:List Str):List Nat→List (Option Expr)→Bool
 |[],l=>x1z l
 |n::ks,l=>match l with|o::r=>(match o with|some x=>Nat.beq (tagE x) 4 && (sy[n]?==some (strE x) && v4c sy ks r)|none=>false)|[]=>false
noncomputable def isN:ME→Bool
 |.none=>true|_=>false
section
variable (K:Frag) (sy:List Str)
noncomputable def x5r (f:ME):Bool:=match f with|.con v=>u5s K v|_=>false
noncomputable def oneL {α:Type} (l:List α):Bool:=match l with|[_]=>true|_=>false
noncomputable def x0f (f:Expr→Bool) (nm:Nm) (e:Expr):Bool:=Nat.beq (tagE e) 19 && (Nat.beq (tagE (sub0 e)) 5 && (oneL (subs e) && (nm.lookup (strE (sub0 e))==some .globalImplicit && !(strE (sub0 e)==("__debug__":Str)) && u4q K (strE (sub0 e)) (.type "range") && f (v2d (subs e) e))))
noncomputable def twoL {α:Type} (l:List α):Bool:=match l with|[]=>false|_::r=>oneL r
noncomputable def x9r (l:List Expr):List Expr:=match l with|[]=>[]|_::r=>r
noncomputable def zipE (f g:Expr→Bool) (nm:Nm) (e:Expr):Bool:=Nat.beq (tagE e) 19 && (Nat.beq (tagE (sub0 e)) 5 && (twoL (subs e) && (nm.lookup (strE (sub0 e))==some .globalImplicit && !(strE (sub0 e)==("__debug__":Str)) && u4q K (strE (sub0 e)) (.type "zip") && f (v2d (subs e) e) && g (v2d (x9r (subs e)) e))))
noncomputable def isZ (k:SrcK):Bool:=match k with|.zip=>true|_=>false
noncomputable def srcC (f g:Expr→Bool) (n:Bool) (k:SrcK) (nm:Nm) (e:Expr):Bool:=match k with|.exp=>n && f e|.range=>n && x0f K f nm e|.zip=>zipE K f g nm e
noncomputable def optE (f:Expr→Bool) (m:ME) (o:Option Expr):Bool:=match o with|some e=>f e|none=>isN m
mutual
noncomputable def chkE:Nm→Sc→ME→Expr→Bool
 |_,_,.none,e=>Nat.beq (tagE e) 1 && true
 |_,_,.bool b,e=>Nat.beq (tagE e) 2 && (match w5v e with|.bool c=>b==c|_=>false)
 |_,_,.int i,e=>Nat.beq (tagE e) 3 && (match w5v e with|.int c=>i==c|_=>false)
 |_,_,.sym n,e=>Nat.beq (tagE e) 4 && (sy[n]?==some (strE e))
 |nm,sc,.loc i,e=>Nat.beq (tagE e) 5 && (sc.lookup (strE e)==some i && u9a (nm.lookup (strE e)) && v1x (strE e))
 |nm,_,.con v,e=>Nat.beq (tagE e) 5 && (nm.lookup (strE e)==some .globalImplicit && !(strE e==("__debug__":Str)) && u4q K (strE e) v && handedIn v)
 |nm,_,.gint i,e=>Nat.beq (tagE e) 5 && (nm.lookup (strE e)==some .globalImplicit && !(strE e==("__debug__":Str)) && (match nsIn K mainGlobals (strE e)with|some (some (.int j _))=>i==j|_=>false))
 |nm,sc,.attr m n,e=>Nat.beq (tagE e) 6 && (sy[n]?==some (strE e) && !u6t (sub0 e) && chkE nm sc m (sub0 e))
 |nm,sc,.item a i,e=>Nat.beq (tagE e) 7 && (chkE nm sc a (sub0 e) && chkE nm sc i (sub1 e))
 |nm,sc,.slice a lo hi,e=>Nat.beq (tagE e) 7 && (Nat.beq (tagE (sub1 e)) 8 && ((x4p (sub1 e)).isNone && (chkE nm sc a (sub0 e) && optE (chkE nm sc lo) lo (lowE (sub1 e)) && optE (chkE nm sc hi) hi (upE (sub1 e)))))
 |nm,sc,.bin op a b,e=>Nat.beq (tagE e) 9 && (op==opE e && chkE nm sc a (sub0 e) && chkE nm sc b (sub1 e))
 |nm,sc,.not a,e=>Nat.beq (tagE e) 10 && chkE nm sc a (sub0 e)
 |nm,sc,.neg a,e=>Nat.beq (tagE e) 11 && chkE nm sc a (sub0 e)
 |nm,sc,.and ms,e=>Nat.beq (tagE e) 12 && u1p nm sc ms (subs e)
 |nm,sc,.or ms,e=>Nat.beq (tagE e) 13 && u1p nm sc ms (subs e)
 |nm,sc,.cmp op a b,e=>Nat.beq (tagE e) 14 && (op==cmpE e && chkE nm sc a (sub0 e) && chkE nm sc b (sub1 e))
 |nm,sc,.cmp2 op op' a b c,e=>Nat.beq (tagE e) 21 && (op==cmpE e && op'==x7n (opsE e).tail && chkE nm sc a (sub0 e) && chkE nm sc b (sub1 e) && chkE nm sc c (v2d (rsE e).tail e))
 |nm,sc,.rev a,e=>Nat.beq (tagE e) 7 && (Nat.beq (tagE (sub1 e)) 8 && ((lowE (sub1 e)).isNone && ((upE (sub1 e)).isNone && (m1E (x4p (sub1 e)) && chkE nm sc a (sub0 e)))))
 |nm,sc,.dK ks ms,e=>Nat.beq (tagE e) 22 && (v4c sy ks (y7w e) && (decide ks.Nodup && (decide (ks.length=ms.length) && (decide (0<ks.length∧ks.length≤15) && u1p nm sc ms (x9q e)))))
 |nm,sc,.ite c a b,e=>Nat.beq (tagE e) 15 && (chkE nm sc c (sub0 e) && chkE nm sc a (sub1 e) && chkE nm sc b (sub2 e))
 |nm,sc,.tup ms,e=>Nat.beq (tagE e) 16 && (u1p nm sc ms (subs e) && decide (ms.length≤30))
 |nm,sc,.list ms,e=>Nat.beq (tagE e) 17 && (u1p nm sc ms (subs e) && decide (ms.length≤30))
 |_,_,.dI,e=>Nat.beq (tagE e) 18 && true
 |_,_,.dS,e=>Nat.beq (tagE e) 18 && true
 |nm,sc,.call f ms,e=>Nat.beq (tagE e) 19 && (Nat.beq (tagE (sub0 e)) 5 && (x5r K f && chkE nm sc f (sub0 e) && u1p nm sc ms (subs e)))
 |nm,sc,.meth o n ms,e=>Nat.beq (tagE e) 19 && (Nat.beq (tagE (sub0 e)) 6 && (sy[n]?==some (strE (sub0 e)) && !u6t (sub0 (sub0 e)) && (sub0 e).pos.endLine==e.pos.line && decide ((subs e).length<30) && chkE nm sc o (sub0 (sub0 e)) && u1p nm sc ms (subs e)))
 |nm,sc,.comp m ti one k e1 e2 conds,e=>Nat.beq (tagE e) 20 && (oneL (x7p e) && (match u0m (genE e).target with
   |some (tn,one')=>(genE e).is_async==0 && one==one' && (u8q e).kind==.function && v1j (u8q e).names nm tn ti sc && !v6o (genE e).iter &&
    chkE (u3z (u8q e).names nm) (u2l (u8q e).names tn ti sc) m (sub0 e) && u1p (u3z (u8q e).names nm) (u2l (u8q e).names tn ti sc) conds (genE e).ifs &&
    srcC K (chkE nm sc e1) (chkE nm sc e2) (isN e2) k nm (genE e).iter && !(isZ k && one)
   |none=>false))
noncomputable def u1p:Nm→Sc→List ME→List Expr→Bool
 |_,_,[],es=>match es with|[]=>true|_::_=>false
 |nm,sc,m::ms,es=>match es with|e::es=>chkE nm sc m e && u1p nm sc ms es|[]=>false
end
noncomputable def srcB (nm:Nm) (sc:Sc) (k:SrcK) (e1 e2:ME) (iter:Expr):Bool:=srcC K (chkE K sy nm sc e1) (chkE K sy nm sc e2) (isN e2) k nm iter
noncomputable def chkR (nm:Nm) (sc:Sc) (m:ME) (e:Expr):Bool:=x0f K (chkE K sy nm sc m) nm e
noncomputable def chkO (nm:Nm) (sc:Sc) (m:ME) (o:Option Expr):Bool:=optE (chkE K sy nm sc m) m o
end
end Mine
end
section
open PySem PySem.W PyProof.Rows PySem.Builtin.ObjectAttr
set_option maxRecDepth 20000
namespace Mine
section
variable {K:Frag} {sy:List Str} {nm:Nm} {sc:Sc} {e:Expr}
theorem tgE (n:Nat) {x:Bool} (c:(Nat.beq (tagE e) n && x)=true):PEat n PE e∧x=true:=
 ⟨Nat.eq_of_beq_eq_true (Bool.and_eq_true_iff.mp c).1▸w2f e,(Bool.and_eq_true_iff.mp c).2⟩
theorem v1w {α:Type} {l:List α} (c:oneL l=true):∃y,l=[y]:=by
 cases l with
 |nil=>exact(Bool.false_ne_true c).elim
 |cons y ys=>cases ys with
  |nil=>exact⟨y,rfl⟩
  |cons _ _=>exact(Bool.false_ne_true c).elim
theorem x2g (c:chkE K sy nm sc .none e=true):∃p q,e=.Constant .none p q:=(tgE 1 c).1
theorem w4x {b:Bool} (c:chkE K sy nm sc (.bool b) e=true):∃p q,e=.Constant (.bool b) p q:=by
 refine u0a (tgE 2 c) fun zz1 c=>?_
 refine u2e zz1 fun x p q zz501=>?_
 subst zz501
 exact⟨p,q,beq_iff_eq.mp c▸rfl⟩
theorem x7j {b:Int} (c:chkE K sy nm sc (.int b) e=true):∃p q,e=.Constant (.int b) p q:=by
 refine u0a (tgE 3 c) fun zz2 c=>?_
 refine u2e zz2 fun x p q zz502=>?_
 subst zz502
 exact⟨p,q,beq_iff_eq.mp c▸rfl⟩
theorem x7f {n:Nat} (c:chkE K sy nm sc (.sym n) e=true):∃x p q,e=.Constant (.str x) p q∧(sy[n]?==some x)=true:=by
 refine u0a (tgE 4 c) fun zz3 c=>?_
 refine u2e zz3 fun x p q zz503=>?_
 subst zz503
 exact⟨x,p,q,rfl,c⟩
theorem x0p {i:Nat} (c:chkE K sy nm sc (.loc i) e=true):∃x p,e=.Name x p∧(sc.lookup x==some i && u9a (nm.lookup x) && v1x x)=true:=by
 refine u0a (tgE 5 c) fun zz4 c=>?_
 refine u1j zz4 fun x p zz504=>?_
 subst zz504
 exact⟨x,p,rfl,c⟩
theorem x7k {v:Value} (c:chkE K sy nm sc (.con v) e=true):∃x p,e=.Name x p∧(nm.lookup x==some .globalImplicit && !(x==("__debug__":Str)) && u4q K x v && handedIn v)=true:=by
 refine u0a (tgE 5 c) fun zz5 c=>?_
 refine u1j zz5 fun x p zz505=>?_
 subst zz505
 exact⟨x,p,rfl,c⟩
theorem w4y {m:ME} {n:Nat} (c:chkE K sy nm sc (.attr m n) e=true):∃v a p,e=.Attribute v a p∧(sy[n]?==some a && !u6t v && chkE K sy nm sc m v)=true:=by
 refine u0a (tgE 6 c) fun zz6 c=>?_
 refine u2e zz6 fun v a p zz506=>?_
 subst zz506
 exact⟨v,a,p,rfl,c⟩
theorem w4u {a i:ME} (c:chkE K sy nm sc (.item a i) e=true):∃v s p,e=.Subscript v s p∧(chkE K sy nm sc a v && chkE K sy nm sc i s)=true:=by
 refine u0a (tgE 7 c) fun zz7 c=>?_
 refine u2e zz7 fun v s p zz507=>?_
 subst zz507
 exact⟨v,s,p,rfl,c⟩
theorem x2i {i:Int} (c:chkE K sy nm sc (.gint i) e=true):∃x p j tk,e=.Name x p∧(nm.lookup x==some .globalImplicit && !(x==("__debug__":Str)))=true∧nsIn K mainGlobals x=some (some (.int j tk))∧i=j:=by
 refine u0a (tgE 5 c) fun zz8 c=>?_
 refine u1j zz8 fun x p zz508=>?_
 subst zz508
 replace c:(nm.lookup x==some .globalImplicit && !(x==("__debug__":Str)) && (match nsIn K mainGlobals x with|some (some (.int j _))=>i==j|_=>false))=true:=c
 refine u0a (Bool.and_eq_true_iff.mp c) fun c1 c2=>?_
 cases k:nsIn K mainGlobals x with
 |none=>rw [k]at c2;exact(Bool.false_ne_true c2).elim
 |some o=>cases o with
  |none=>rw [k]at c2;exact(Bool.false_ne_true c2).elim
  |some v=>cases v with
   |int j tk=>rw [k]at c2;exact⟨x,p,j,tk,rfl,c1,k,beq_iff_eq.mp c2⟩
   |_=>rw [k]at c2;exact(Bool.false_ne_true c2).elim
theorem w8g {a lo hi:ME} (c:chkE K sy nm sc (.slice a lo hi) e=true):∃v l u q p,e=.Subscript v (.Slice l u none q) p∧(chkE K sy nm sc a v && chkO K sy nm sc lo l && chkO K sy nm sc hi u)=true:=by
 refine u0a (tgE 7 c) fun zz9 c=>?_
 refine u2e zz9 fun v s p zz509=>?_
 subst zz509
 refine u0a (tgE 8 c) fun zz10 c=>?_
 refine v4t zz10 fun l u o q e=>?_
 replace e:s=_:=e
 subst e
 refine u0a (Bool.and_eq_true_iff.mp c) fun c1 c=>?_
 replace c1:o=none:=Option.isNone_iff_eq_none.mp c1
 subst c1
 exact⟨v,l,u,q,p,rfl,c⟩
theorem x0s {op:Operator} {a b:ME} (c:chkE K sy nm sc (.bin op a b) e=true):∃l o r p,e=.BinOp l o r p∧(op==o && chkE K sy nm sc a l && chkE K sy nm sc b r)=true:=by
 refine u0a (tgE 9 c) fun zz11 c=>?_
 refine v4t zz11 fun l o r p zz510=>?_
 subst zz510
 exact⟨l,o,r,p,rfl,c⟩
theorem x0o {a:ME} (c:chkE K sy nm sc (.not a) e=true):∃x p,e=.UnaryOp .Not x p∧chkE K sy nm sc a x=true:=by
 refine u0a (tgE 10 c) fun zz12 c=>?_
 refine u1j zz12 fun x p zz511=>?_
 subst zz511
 exact⟨x,p,rfl,c⟩
theorem x7i {a:ME} (c:chkE K sy nm sc (.neg a) e=true):∃x p,e=.UnaryOp .USub x p∧chkE K sy nm sc a x=true:=by
 refine u0a (tgE 11 c) fun zz13 c=>?_
 refine u1j zz13 fun x p zz512=>?_
 subst zz512
 exact⟨x,p,rfl,c⟩
theorem x0t {ms:List ME} (c:chkE K sy nm sc (.and ms) e=true):∃es p,e=.BoolOp .And es p∧u1p K sy nm sc ms es=true:=by
 refine u0a (tgE 12 c) fun zz14 c=>?_
 refine u1j zz14 fun x p zz513=>?_
 subst zz513
 exact⟨x,p,rfl,c⟩
theorem x7h {ms:List ME} (c:chkE K sy nm sc (.or ms) e=true):∃es p,e=.BoolOp .Or es p∧u1p K sy nm sc ms es=true:=by
 refine u0a (tgE 13 c) fun zz15 c=>?_
 refine u1j zz15 fun x p zz514=>?_
 subst zz514
 exact⟨x,p,rfl,c⟩
theorem x0r {op:CmpOp} {a b:ME} (c:chkE K sy nm sc (.cmp op a b) e=true):∃l o r p,e=.Compare l [o] [r] p∧(op==o && chkE K sy nm sc a l && chkE K sy nm sc b r)=true:=by
 refine u0a (tgE 14 c) fun zz16 c=>?_
 refine v4t zz16 fun l o r p zz515=>?_
 subst zz515
 exact⟨l,o,r,p,rfl,c⟩
theorem x2j {op op':CmpOp} {a b d:ME} (c:chkE K sy nm sc (.cmp2 op op' a b d) e=true):∃l o o' r r' p,e=.Compare l [o,o'] [r,r'] p∧(op==o && op'==o' && chkE K sy nm sc a l && chkE K sy nm sc b r && chkE K sy nm sc d r')=true:=by
 refine u0a (tgE 21 c) fun zz17 c=>?_
 refine u1j zz17 fun l o zz516=>?_
 obtain⟨o',r,r',p,rfl⟩:=zz516
 exact⟨l,o,o',r,r',p,rfl,c⟩
theorem x6b {o:Option Expr} (c:m1E o=true):∃p q p',o=some (.UnaryOp .USub (.Constant (.int 1) p q) p'):=by
 cases o with
 |none=>exact(Bool.false_ne_true c).elim
 |some x=>
  refine u0a (tgE 11 c) fun zz18 c=>?_
  refine u1j zz18 fun y p' zz517=>?_
  subst zz517
  refine u0a (tgE 3 c) fun zz19 c=>?_
  refine u2e zz19 fun i p q e=>?_
  replace e:y=_:=e
  subst e
  exact⟨p,q,p',beq_iff_eq.mp (show(i==1)=true from c)▸rfl⟩
theorem x7g {a:ME} (c:chkE K sy nm sc (.rev a) e=true):∃v p1 p2 p3 q p,e=.Subscript v (.Slice none none (some (.UnaryOp .USub (.Constant (.int 1) p1 p2) p3)) q) p∧chkE K sy nm sc a v=true:=by
 refine u0a (tgE 7 c) fun zz20 c=>?_
 refine u2e zz20 fun v s p zz518=>?_
 subst zz518
 refine u0a (tgE 8 c) fun zz21 c=>?_
 refine v4t zz21 fun l u o q e=>?_
 replace e:s=_:=e
 subst e
 refine u0a (Bool.and_eq_true_iff.mp c) fun c1 c=>?_
 refine u0a (Bool.and_eq_true_iff.mp c) fun c2 c=>?_
 refine u0a (Bool.and_eq_true_iff.mp c) fun c3 c=>?_
 replace c1:l=none:=Option.isNone_iff_eq_none.mp c1
 replace c2:u=none:=Option.isNone_iff_eq_none.mp c2
 subst c1;subst c2
 refine u2e (x6b (show m1E o=true from c3)) fun p1 p2 p3 zz22=>?_
 subst zz22
 exact⟨v,p1,p2,p3,q,p,rfl,c⟩
theorem y8a {ks:List Nat} {ms:List ME} (c:chkE K sy nm sc (.dK ks ms) e=true):∃es vs p,e=.Dict es vs p∧v4c sy ks es=true∧ks.Nodup∧ks.length=ms.length∧(0<ks.length∧ks.length≤15)∧u1p K sy nm sc ms vs=true:=by
 refine u0a (tgE 22 c) fun zz23 c=>?_
 refine u0i zz23 fun es zz519=>?_
 obtain⟨vs,p,rfl⟩:=zz519
 refine u0a (Bool.and_eq_true_iff.mp c) fun c1 c=>?_
 refine u0a (Bool.and_eq_true_iff.mp c) fun c2 c=>?_
 refine u0a (Bool.and_eq_true_iff.mp c) fun c3 c=>?_
 refine u0a (Bool.and_eq_true_iff.mp c) fun c4 c=>?_
 exact⟨es,vs,p,rfl,c1,of_decide_eq_true c2,of_decide_eq_true c3,of_decide_eq_true c4,c⟩
theorem v4b {n:Nat} {ks:List Nat} {l:List (Option Expr)} (c:v4c sy (n::ks) l=true):∃x p q r,l=some (.Constant (.str x) p q)::r∧sy[n]?=some x∧v4c sy ks r=true:=by
 cases l with
 |nil=>exact(Bool.false_ne_true c).elim
 |cons o r=>cases o with
  |none=>exact(Bool.false_ne_true c).elim
  |some y=>
   refine u0a (tgE 4 c) fun zz24 c=>?_
   refine u2e zz24 fun x p q zz520=>?_
   subst zz520
   refine u0a (Bool.and_eq_true_iff.mp c) fun c1 c=>?_
   exact⟨x,p,q,r,rfl,beq_iff_eq.mp c1,c⟩
theorem v8l {l:List (Option Expr)} (c:v4c sy [] l=true):l=[]:=by
 cases l with
 |nil=>rfl
 |cons _ _=>exact(Bool.false_ne_true c).elim
theorem x0q {x a b:ME} (c:chkE K sy nm sc (.ite x a b) e=true):∃t u v p,e=.IfExp t u v p∧(chkE K sy nm sc x t && chkE K sy nm sc a u && chkE K sy nm sc b v)=true:=by
 refine u0a (tgE 15 c) fun zz25 c=>?_
 refine v4t zz25 fun t u v p zz521=>?_
 subst zz521
 exact⟨t,u,v,p,rfl,c⟩
theorem x7e {ms:List ME} (c:chkE K sy nm sc (.tup ms) e=true):∃es q p,e=.Tuple es q p∧(u1p K sy nm sc ms es && decide (ms.length≤30))=true:=by
 refine u0a (tgE 16 c) fun zz26 c=>?_
 refine u2e zz26 fun es q p zz522=>?_
 subst zz522
 exact⟨es,q,p,rfl,c⟩
theorem x2h {ms:List ME} (c:chkE K sy nm sc (.list ms) e=true):∃es p,e=.List es p∧(u1p K sy nm sc ms es && decide (ms.length≤30))=true:=by
 refine u0a (tgE 17 c) fun zz27 c=>?_
 refine u1j zz27 fun es p zz523=>?_
 subst zz523
 exact⟨es,p,rfl,c⟩
theorem y8b (c:chkE K sy nm sc .dI e=true):∃p,e=.Dict [] [] p:=(tgE 18 c).1
theorem y7z (c:chkE K sy nm sc .dS e=true):∃p,e=.Dict [] [] p:=(tgE 18 c).1
theorem w3u {f:ME} (c:x5r K f=true):∃v,f=.con v∧u5s K v=true:=by
 cases f with
 |con v=>exact⟨v,rfl,c⟩
 |_=>exact(Bool.false_ne_true c).elim
theorem w4w {f:ME} {ms:List ME} (c:chkE K sy nm sc (.call f ms) e=true):∃v x p es q,f=.con v∧e=.Call (.Name x p) es [] q∧(u5s K v && chkE K sy nm sc (.con v) (.Name x p) && u1p K sy nm sc ms es)=true:=by
 refine u0a (tgE 19 c) fun zz28 c=>?_
 refine u2e zz28 fun g es q zz524=>?_
 subst zz524
 refine u0a (tgE 5 c) fun zz29 c=>?_
 refine u1j zz29 fun x p e=>?_
 replace e:g=_:=e
 subst e
 refine u0a (Bool.and_eq_true_iff.mp c) fun c1 c3=>?_
 refine u0a (Bool.and_eq_true_iff.mp c1) fun c1 c2=>?_
 refine u0d (w3u c1) fun v zz30 c1=>?_
 subst zz30
 exact⟨v,x,p,es,q,rfl,rfl,Bool.and_eq_true_iff.mpr ⟨Bool.and_eq_true_iff.mpr ⟨c1,c2⟩,c3⟩⟩
theorem w4t {o:ME} {n:Nat} {ms:List ME} (c:chkE K sy nm sc (.meth o n ms) e=true):∃g a ap es p,e=.Call (.Attribute g a ap) es [] p∧(sy[n]?==some a && !u6t g && ap.endLine==p.line && decide (es.length<30) && chkE K sy nm sc o g && u1p K sy nm sc ms es)=true:=by
 refine u0a (tgE 19 c) fun zz31 c=>?_
 refine u2e zz31 fun g es q zz525=>?_
 subst zz525
 refine u0a (tgE 6 c) fun zz32 c=>?_
 refine u2e zz32 fun v a p e=>?_
 replace e:g=_:=e
 subst e
 exact⟨v,a,p,es,q,rfl,c⟩
theorem w2c {tn:List Str} (h:u0m e=some (tn,false)):∃es x p,e=.Tuple es x p:=by
 cases e with
 |Tuple es x p=>exact⟨es,x,p,rfl⟩
 |Name x p=>cases h
 |_=>exact ns h
theorem v8n {m:ME} (c:isN m=true):m=.none:=by
 cases m with
 |none=>rfl
 |_=>exact(Bool.false_ne_true c).elim
theorem w4v {m e1 e2:ME} {ti:List Nat} {one:Bool} {k:SrcK} {conds:List ME} (c:chkE K sy nm sc (.comp m ti one k e1 e2 conds) e=true):∃elt target iter ifs scope p tn,e=.ListComp elt [⟨target,iter,ifs,0⟩] scope p∧u0m target=some (tn,one)∧
  (scope.kind==.function && v1j scope.names nm tn ti sc && !v6o iter && chkE K sy (u3z scope.names nm) (u2l scope.names tn ti sc) m elt && u1p K sy (u3z scope.names nm) (u2l scope.names tn ti sc) conds ifs &&
   srcB K sy nm sc k e1 e2 iter && !(isZ k && one))=true:=by
 refine u0a (tgE 20 c) fun zz33 c=>?_
 refine u2e zz33 fun elt gs scope zz526=>?_
 obtain⟨p,rfl⟩:=zz526
 refine u0a (Bool.and_eq_true_iff.mp c) fun c1 c=>?_
 refine u0i (v1w c1) fun zz34 e=>?_
 obtain⟨target,iter,ifs,asy⟩:=zz34
 replace e:gs=_:=e
 subst e
 replace c:(match u0m target with
   |some (tn,one')=>asy==0 && one==one' && scope.kind==.function && v1j scope.names nm tn ti sc && !v6o iter &&
    chkE K sy (u3z scope.names nm) (u2l scope.names tn ti sc) m elt && u1p K sy (u3z scope.names nm) (u2l scope.names tn ti sc) conds ifs &&
    srcB K sy nm sc k e1 e2 iter && !(isZ k && one)
   |none=>false)=true:=c
 cases ht:u0m target with
 |none=>rw [ht]at c;exact(Bool.false_ne_true c).elim
 |some o=>
  obtain⟨tn,one'⟩:=o
  rw [ht]at c
  simp only [Bool.and_eq_true,beq_iff_eq]at c ⊢
  refine u0a c fun zz35 c8=>?_
  refine u0a zz35 fun zz527 c7=>?_
  obtain⟨⟨⟨⟨⟨⟨rfl,rfl⟩,c2⟩,c3⟩,c4⟩,c5⟩,c6⟩:=zz527
  exact⟨elt,target,iter,ifs,scope,p,tn,rfl,ht,⟨⟨⟨⟨⟨c2,c3⟩,c4⟩,c5⟩,c6⟩,c7⟩,c8⟩
theorem y7y {m:ME} {el:Expr} {gs:List Comprehension} {scope:Scope} {p:Pos} (c:chkE K sy nm sc m (.ListComp el gs scope p)=true):∃elt ti one k e1 e2 conds,m=.comp elt ti one k e1 e2 conds:=by
 cases m with
 |comp elt ti one k e1 e2 conds=>exact⟨_,_,_,_,_,_,_,rfl⟩
 |_=>exact(Bool.false_ne_true c).elim
theorem iR {m:ME} (c:chkR K sy nm sc m e=true):∃x p y pos,e=.Call (.Name x p) [y] [] pos∧(nm.lookup x==some .globalImplicit && !(x==("__debug__":Str)) && u4q K x (.type "range") && chkE K sy nm sc m y)=true:=by
 refine u0a (tgE 19 c) fun zz36 c=>?_
 refine u2e zz36 fun g es q zz528=>?_
 subst zz528
 refine u0a (tgE 5 c) fun zz37 c=>?_
 refine u1j zz37 fun x p e=>?_
 replace e:g=_:=e
 subst e
 refine u0a (Bool.and_eq_true_iff.mp c) fun c1 c=>?_
 refine u0i (v1w c1) fun y e=>?_
 replace e:es=_:=e
 subst e
 exact⟨x,p,y,q,rfl,c⟩
theorem x1e {α:Type} {l:List α} (c:twoL l=true):∃x y,l=[x,y]:=by
 cases l with
 |nil=>exact(Bool.false_ne_true c).elim
 |cons x r=>refine u0i (v1w c) fun y zz38=>?_;subst zz38;exact⟨x,y,rfl⟩
theorem iZ {m m':ME} (c:zipE K (chkE K sy nm sc m) (chkE K sy nm sc m') nm e=true):∃x p y y' pos,e=.Call (.Name x p) [y,y'] [] pos∧(nm.lookup x==some .globalImplicit && !(x==("__debug__":Str)) && u4q K x (.type "zip") && chkE K sy nm sc m y && chkE K sy nm sc m' y')=true:=by
 refine u0a (tgE 19 c) fun zz39 c=>?_
 refine u2e zz39 fun g es q zz529=>?_
 subst zz529
 refine u0a (tgE 5 c) fun zz40 c=>?_
 refine u1j zz40 fun x p e=>?_
 replace e:g=_:=e
 subst e
 refine u0a (Bool.and_eq_true_iff.mp c) fun c1 c=>?_
 refine u1j (x1e c1) fun y y' e=>?_
 replace e:es=_:=e
 subst e
 exact⟨x,p,y,y',q,rfl,c⟩
theorem v6p {es:List Expr} (c:u1p K sy nm sc [] es=true):es=[]:=by
 cases es with
 |nil=>rfl
 |cons _ _=>exact(Bool.false_ne_true c).elim
theorem w8f {m:ME} {ms:List ME} {es:List Expr} (c:u1p K sy nm sc (m::ms) es=true):∃e es',es=e::es'∧chkE K sy nm sc m e=true∧u1p K sy nm sc ms es'=true:=by
 cases es with
 |nil=>exact(Bool.false_ne_true c).elim
 |cons e es'=>exact⟨e,es',rfl,Bool.and_eq_true_iff.mp c⟩
end
end Mine
end
section
open PySem PySem.W PyProof.Rows
set_option maxRecDepth 20000
namespace Mine
section
variable {T:Tab} {CS:u1n} {r:Nat} {loc:Loc} {σ:Hp} {Q E:MV→Hp→Prop} {QB:Bool→Hp→Prop} {QS:Out→Loc→Hp→Prop} {ES:MV→Loc→Hp→Prop} {QL:List MV→Hp→Prop} {K:Loc→Hp→Prop}
theorem w5q:ewp T CS r .none loc σ Q E=Q .none σ:=rfl
theorem x8o {b:Bool}:ewp T CS r (.bool b) loc σ Q E=Q (.bool b) σ:=rfl
theorem y8x {i:Int}:ewp T CS r (.int i) loc σ Q E=Q (.int i) σ:=rfl
theorem y8t {n:Nat}:ewp T CS r (.sym n) loc σ Q E=Q (.sym n) σ:=rfl
theorem x3b {i:Nat}:ewp T CS r (.loc i) loc σ Q E=locP loc[i]? (fun v=>Q v σ):=rfl
theorem x6m {v:MV} {Q:MV→Prop}:locP (some (some v)) Q=Q v:=rfl
theorem x4w {x:Option MV} {l:Loc} {v:MV} {K:Loc→Prop}:setP (x::l) 0 v K=K (some v::l):=rfl
theorem x4x {x:Option MV} {l:Loc} {n:Nat} {v:MV} {K:Loc→Prop}:setP (x::l) (n+1) v K=setP l n v fun l=>K (x::l):=rfl
theorem x6a {l:Loc} {K:Loc→Prop}:u7g l [] [] K=K l:=rfl
theorem x4e {l:Loc} {i:Nat} {is:List Nat} {x:MV} {xs:List MV} {K:Loc→Prop}:u7g l (i::is) (x::xs) K=setP l i x fun l=>u7g l is xs K:=rfl
theorem x8m {v:Value}:ewp T CS r (.con v) loc σ Q E=Q (.con v) σ:=rfl
theorem x8l {i:Int}:ewp T CS r (.gint i) loc σ Q E=Q (.int i) σ:=rfl
theorem x8p {e:ME} {n:Nat}:ewp T CS r (.attr e n) loc σ Q E=ewp T CS r e loc σ (fun o σ1=>v3c T o n σ1 fun v=>Q v σ1) E:=rfl
theorem x8k {e i:ME}:ewp T CS r (.item e i) loc σ Q E=ewp T CS r e loc σ (fun o σ1=>ewp T CS r i loc σ1 (fun j σ2=>u4h o j σ2 Q) E) E:=rfl
theorem x3a {e lo hi:ME}:ewp T CS r (.slice e lo hi) loc σ Q E=ewp T CS r e loc σ (fun o σ1=>ewp T CS r lo loc σ1 (fun l σ2=>ewp T CS r hi loc σ2 (fun h σ3=>u8p o l h σ3 Q) E) E) E:=rfl
theorem y8z {op:Operator} {a b:ME}:ewp T CS r (.bin op a b) loc σ Q E=ewp T CS r a loc σ (fun va σ1=>ewp T CS r b loc σ1 (fun vb σ2=>binP op va vb σ2 Q) E) E:=rfl
theorem y8u {e:ME}:ewp T CS r (.not e) loc σ Q E=ewp T CS r e loc σ (fun v σ1=>u1u v fun b=>Q (.bool !b) σ1) E:=rfl
noncomputable def negP (v:MV) (Q:MV→Prop):Prop:=match v with|.int i=>Q (.int (-i))|_=>False
theorem y8v {e:ME}:ewp T CS r (.neg e) loc σ Q E=ewp T CS r e loc σ (fun v σ1=>negP v fun u=>Q u σ1) E:=rfl
theorem x9l {i:Int} {Q:MV→Prop}:negP (.int i) Q=Q (.int (-i)):=rfl
theorem y9a {es:List ME}:ewp T CS r (.and es) loc σ Q E=u5v T CS r true es loc σ Q E:=rfl
theorem e_or {es:List ME}:ewp T CS r (.or es) loc σ Q E=u5v T CS r false es loc σ Q E:=rfl
theorem y8y {op:CmpOp} {a b:ME}:ewp T CS r (.cmp op a b) loc σ Q E=ewp T CS r a loc σ (fun va σ1=>ewp T CS r b loc σ1 (fun vb σ2=>cmpP op va vb σ2 fun c=>Q (.bool c) σ2) E) E:=rfl
theorem y8w {c a b:ME}:ewp T CS r (.ite c a b) loc σ Q E=twp T CS r c loc σ (fun t σ1=>if t then ewp T CS r a loc σ1 Q E else ewp T CS r b loc σ1 Q E) E:=rfl
theorem y8s {es:List ME}:ewp T CS r (.tup es) loc σ Q E=ewps T CS r es loc σ (fun vs σ1=>Q (.tup vs) σ1) E:=rfl
theorem x8j {es:List ME}:ewp T CS r (.list es) loc σ Q E=ewps T CS r es loc σ (fun vs σ1=>newP (.list vs) σ1 Q) E:=rfl
theorem e_dI:ewp T CS r .dI loc σ Q E=newP (.dI []) σ Q:=rfl
theorem x8n {v:Value} {args:List ME}:ewp T CS r (.call (.con v) args) loc σ Q E=ewps T CS r args loc σ (fun vs σ2=>CS r v vs σ2 Q E) E:=rfl
theorem x8i {o:ME} {n:Nat} {args:List ME}:ewp T CS r (.meth o n args) loc σ Q E=ewp T CS r o loc σ (fun ov σ1=>v0b T ov n σ1 fun f first=>ewps T CS r args loc σ1 (fun vs σ2=>CS r f (first++vs) σ2 Q E) E) E:=rfl
theorem z0m:ewps T CS r [] loc σ QL E=QL [] σ:=rfl
theorem w5m {e:ME} {es:List ME}:ewps T CS r (e::es) loc σ QL E=ewp T CS r e loc σ (fun v σ1=>ewps T CS r es loc σ1 (fun vs σ2=>QL (v::vs) σ2) E) E:=rfl
theorem z1v {a:Bool} {e:ME}:u5v T CS r a [e] loc σ Q E=ewp T CS r e loc σ Q E:=rfl
theorem x8z {a:Bool} {e e':ME} {es:List ME}:u5v T CS r a (e::e'::es) loc σ Q E=ewp T CS r e loc σ (fun v σ1=>u1u v fun b=>if b==a then u5v T CS r a (e'::es) loc σ1 Q E else Q v σ1) E:=rfl
theorem x9s {e:ME}:twp T CS r (.not e) loc σ QB E=twp T CS r e loc σ (fun b σ1=>QB (!b) σ1) E:=rfl
theorem x9v {es:List ME}:twp T CS r (.and es) loc σ QB E=u4x T CS r true es loc σ QB E:=rfl
theorem t_or {es:List ME}:twp T CS r (.or es) loc σ QB E=u4x T CS r false es loc σ QB E:=rfl
theorem x9t {c a b:ME}:twp T CS r (.ite c a b) loc σ QB E=twp T CS r c loc σ (fun t σ1=>if t then twp T CS r a loc σ1 QB E else twp T CS r b loc σ1 QB E) E:=rfl
theorem x9u {op:CmpOp} {a b:ME}:twp T CS r (.cmp op a b) loc σ QB E=ewp T CS r a loc σ (fun va σ1=>ewp T CS r b loc σ1 (fun vb σ2=>cmpP op va vb σ2 fun c=>QB c σ2) E) E:=rfl
theorem x0b {op op':CmpOp} {a b c:ME}:twp T CS r (.cmp2 op op' a b c) loc σ QB E=ewp T CS r a loc σ (fun va σ1=>ewp T CS r b loc σ1 (fun vb σ2=>cmpP op va vb σ2 fun t=>if t then ewp T CS r c loc σ2 (fun vc σ3=>cmpP op' vb vc σ3 fun t=>QB t σ3) E else QB false σ2) E) E:=rfl
theorem x8h {e:ME}:ewp T CS r (.rev e) loc σ Q E=ewp T CS r e loc σ (fun v σ1=>revP v fun u=>Q u σ1) E:=rfl
theorem e_dK {ks:List Nat} {es:List ME}:ewp T CS r (.dK ks es) loc σ Q E=ewps T CS r es loc σ (fun vs σ1=>newP (.dS (ks.zip vs)) σ1 Q) E:=rfl
theorem y9z {b:Bool}:twp T CS r (.bool b) loc σ QB E=QB b σ:=rfl
theorem z1f {i:Nat}:twp T CS r (.loc i) loc σ QB E=locP loc[i]? (fun v=>u1u v fun b=>QB b σ):=rfl
theorem z0a {e:ME} {n:Nat}:twp T CS r (.attr e n) loc σ QB E=ewp T CS r e loc σ (fun o σ1=>v3c T o n σ1 fun v=>u1u v fun b=>QB b σ1) E:=rfl
theorem y9x {e i:ME}:twp T CS r (.item e i) loc σ QB E=ewp T CS r e loc σ (fun o σ1=>ewp T CS r i loc σ1 (fun j σ2=>u4h o j σ2 fun v σ3=>u1u v fun b=>QB b σ3) E) E:=rfl
theorem z1g {op:Operator} {a b:ME}:twp T CS r (.bin op a b) loc σ QB E=ewp T CS r a loc σ (fun va σ1=>ewp T CS r b loc σ1 (fun vb σ2=>binP op va vb σ2 fun v σ3=>u1u v fun b=>QB b σ3) E) E:=rfl
theorem y9y {v:Value} {args:List ME}:twp T CS r (.call (.con v) args) loc σ QB E=ewps T CS r args loc σ (fun vs σ2=>CS r v vs σ2 (fun v σ3=>u1u v fun b=>QB b σ3) E) E:=rfl
theorem y9w {o:ME} {n:Nat} {args:List ME}:twp T CS r (.meth o n args) loc σ QB E=ewp T CS r o loc σ (fun ov σ1=>v0b T ov n σ1 fun f first=>ewps T CS r args loc σ1 (fun vs σ2=>CS r f (first++vs) σ2 (fun v σ3=>u1u v fun b=>QB b σ3) E) E) E:=rfl
theorem z1d {a:Bool}:u4x T CS r a [] loc σ QB E=QB a σ:=rfl
theorem x3w {a:Bool} {e:ME} {es:List ME}:u4x T CS r a (e::es) loc σ QB E=twp T CS r e loc σ (fun b σ1=>if b==a then u4x T CS r a es loc σ1 QB E else QB b σ1) E:=rfl
end
end Mine
end
section
open PySem PySem.W PyProof.Rows PySem.Builtin.ObjectAttr
set_option maxRecDepth 20000
namespace Mine
section
variable {T:Tab} (cx:Cx T) (CS:u1n)
structure Here (A:Around) (fs:List Env) (r:Nat) (env:Env) (nm:Nm) (sc:Sc) (loc:Loc) (own:Addr→Option Addr) (σ:Hp) (h:Heap):Prop where
 around:ACtx A fs r
 stat:EStat env nm
 inv:Inv cx fs own σ h
 rel:ERel cx env sc loc own h
noncomputable def CSok:Prop:=∀r f args σ Q E,CS r f args σ Q E→u0p cx r f args σ Q E
noncomputable def SndE (m:ME):Prop:=∀nm sc ex,chkE cx.K T.sym nm sc m ex=true→∀A fs r env loc own σ h t Q E,Here cx A fs r env nm sc loc own σ h→ewp T CS r m loc σ Q E→
 wpAny (model cx.prog cx.w) A (eval ex env) (Pst cx fs noX own h (VQ cx Q)) (Pst cx fs noX own h (EQ E)) (cx.mk' h t)
noncomputable def v3f (ms:List ME):Prop:=∀nm sc es,u1p cx.K T.sym nm sc ms es=true→∀A fs r env loc own σ h t Q E,Here cx A fs r env nm sc loc own σ h→ewps T CS r ms loc σ Q E→
 wpAny (model cx.prog cx.w) A (spliced (es.map fun e=>(false,eval e env))) (Pst cx fs noX own h (VsQ cx fun vs σ'=>vs.length=ms.length∧Q vs σ')) (Pst cx fs noX own h (EQ E)) (cx.mk' h t)
noncomputable def SndB (ms:List ME):Prop:=∀nm sc es,u1p cx.K T.sym nm sc ms es=true→∀(isAnd:Bool) pos A fs r env loc own σ h t Q E,Here cx A fs r env nm sc loc own σ h→u5v T CS r isAnd ms loc σ Q E→
 wpAny (model cx.prog cx.w) A (boolOp pos (if isAnd then .And else .Or) (evalEach es env)) (Pst cx fs noX own h (VQ cx Q)) (Pst cx fs noX own h (EQ E)) (cx.mk' h t)
noncomputable def SndT (m:ME):Prop:=∀nm sc ex,chkE cx.K T.sym nm sc m ex=true→∀A fs r env loc own σ h t Q E,Here cx A fs r env nm sc loc own σ h→twp T CS r m loc σ Q E→
 wpAny (model cx.prog cx.w) A (isTrue ex env (eval ex env)) (Pst cx fs noX own h (BQ Q)) (Pst cx fs noX own h (EQ E)) (cx.mk' h t)
noncomputable def SndA (ms:List ME):Prop:=∀nm sc es,u1p cx.K T.sym nm sc ms es=true→∀(isAnd:Bool) A fs r env loc own σ h t Q E,Here cx A fs r env nm sc loc own σ h→u4x T CS r isAnd ms loc σ Q E→
 wpAny (model cx.prog cx.w) A (allTrue (if isAnd then .And else .Or) es env) (Pst cx fs noX own h (BQ Q)) (Pst cx fs noX own h (EQ E)) (cx.mk' h t)
end
section
variable {T:Tab} {cx:Cx T} {CS:u1n} {A:Around} {fs:List Env} {r:Nat} {env:Env} {nm:Nm} {sc:Sc} {loc:Loc} {own own1:Addr→Option Addr} {σ σ1:Hp} {h h1:Heap} {t:Nat}
theorem Here.go (H:Here cx A fs r env nm sc loc own σ h) (I:Inv cx fs own1 σ1 h1) (x:OwnExt own own1 h) (k:Keep fs own noX h h1):Here cx A fs r env nm sc loc own1 σ1 h1:=
 ⟨H.around,H.stat,I,H.rel.keep x k (H.inv.tk0 k)⟩
theorem step {α β:Type} {c:Sem α} {d:α→Sem β} {P:α→Hp→Heap→Prop} {P':β→Hp→Heap→Prop} {E:MV→Hp→Prop} {s:Shared}
  (W:wpAny (model cx.prog cx.w) A c (Pst cx fs noX own h P) (Pst cx fs noX own h (EQ E)) s)
  (f:∀v own1 σ1 h1 t1,Inv cx fs own1 σ1 h1→OwnExt own own1 h→Keep fs own noX h h1→P v σ1 h1→wpAny (model cx.prog cx.w) A (d v) (Pst cx fs noX own1 h1 P') (Pst cx fs noX own1 h1 (EQ E)) (cx.mk' h1 t1)):
  wpAny (model cx.prog cx.w) A c (fun v s=>wpAny (model cx.prog cx.w) A (d v) (Pst cx fs noX own h P') (Pst cx fs noX own h (EQ E)) s) (Pst cx fs noX own h (EQ E)) s:=
 u0e W (fun _ _ e=>e) fun v own1 σ1 h1 t1 I x k p=>wpAny_mono (f v own1 σ1 h1 t1 I x k p) (fun _ _ q=>q.up x k) fun _ _ q=>q.up x k
theorem w9j {m:ME} {e:Expr} {p:Pos}:chkE cx.K T.sym nm sc m (.Starred e p)=false:=by cases m<;>rfl
theorem v3l {m:ME} {e:Expr} (c:chkE cx.K T.sym nm sc m e=true) (es:List Expr) (env:Env):starEach (e::es) env=(false,eval e env)::starEach es env:=by
 cases e with
 |Starred _ _=>rw [w9j]at c;exact(Bool.false_ne_true c).elim
 |_=>rfl
theorem u1y {ms:List ME} {es:List Expr} (c:u1p cx.K T.sym nm sc ms es=true) (env:Env) (pos:Pos):backTo pos (starEach es env)=es.map fun e=>(false,eval e env):=by
 induction ms generalizing es with
 |nil=>rw [v6p c];rfl
 |cons m ms ih=>cases es with
  |nil=>exact(Bool.false_ne_true c).elim
  |cons e es=>exact u0a (Bool.and_eq_true_iff.mp c) fun c1 c2=>(congrArg (backTo pos) (v3l c1 es env)).trans (congrArg (_:: ·) (ih c2))
theorem u2a {ms:List ME} {es:List Expr} (c:u1p cx.K T.sym nm sc ms es=true):es.length=ms.length:=by
 induction ms generalizing es with
 |nil=>rw [v6p c];rfl
 |cons m ms ih=>cases es with
  |nil=>exact(Bool.false_ne_true c).elim
  |cons e es=>exact u0a (Bool.and_eq_true_iff.mp c) fun c1 c2=>congrArg (· +1) (ih c2)
theorem v1v (es:List Expr) (env:Env):(es.map fun e=>((false,eval e env):Bool×Sem Value)).any (·.1)=false:=by
 induction es with
 |nil=>rfl
 |cons e es ih=>rw [List.map_cons,List.any_cons,ih];rfl
theorem EStat.kindOf (S:EStat env nm) (x:Str):env.kindOf x=nm.lookup x:=by
 unfold Env.kindOf;rw [S.names]
theorem v9u:SndE cx CS .none:=fun nm sc ex c A fs r env loc own σ h t Q E H q=>by
 replace c:=x2g c;refine u1j c fun _ _ zz1=>?_;subst zz1;rw [w5q]at q
 exact wpAny_Constant_none (u0r H.inv .mk_none q)
theorem w0b (b:Bool):SndE cx CS (.bool b):=fun nm sc ex c A fs r env loc own σ h t Q E H q=>by
 replace c:=w4x c;refine u1j c fun _ _ zz2=>?_;subst zz2;rw [x8o]at q
 exact wpAny_Constant_bool (u0r H.inv (.mk_bool _) q)
theorem w2p (b:Int):SndE cx CS (.int b):=fun nm sc ex c A fs r env loc own σ h t Q E H q=>by
 replace c:=x7j c;refine u1j c fun _ _ zz3=>?_;subst zz3;rw [y8x]at q
 exact wpAny_Constant_int (u0r H.inv (.mk_int _ _) q)
theorem w2j (n:Nat):SndE cx CS (.sym n):=fun nm sc ex c A fs r env loc own σ h t Q E H q=>by
 replace c:=x7f c;obtain⟨_,_,_,rfl,c⟩:=c;rw [y8t]at q
 exact wpAny_Constant_str (u0r H.inv (.mk_sym _ (beq_iff_eq.mp c)) q)
theorem w2n (i:Nat):SndE cx CS (.loc i):=fun nm sc ex c A fs r env loc own σ h t Q E H q=>by
 replace c:=x0p c;obtain⟨x,p,rfl,c⟩:=c;rw [x3b]at q
 obtain⟨mv,hl,q⟩:=v8g q
 ·skip
  simp only [Bool.and_eq_true,u9a,v1x,Bool.or_eq_true,Bool.not_eq_true',beq_iff_eq]at c
  obtain⟨⟨c1,c2⟩,c3,c4⟩:=c
  refine w7p H.stat H.rel c1 ?_ (by simpa using c3) (by simpa using c4) hl fun v rv=>u0r H.inv rv q
  rw [H.stat.kindOf]
  rcases c2 with(c2|c2)|c2
  ·exact .inl c2
  ·exact .inr (.inl c2)
  ·exact .inr (.inr c2)
theorem v3o (v:Value):SndE cx CS (.con v):=fun nm sc ex c A fs r env loc own σ h t Q E H q=>by
 replace c:=x7k c;obtain⟨x,p,rfl,c⟩:=c;rw [x8m]at q
 simp only [Bool.and_eq_true,Bool.not_eq_true',beq_iff_eq]at c
 refine al4 c fun c1 c2 c3 c4=>?_
 exact u6p H.inv H.stat (by rw [H.stat.kindOf];exact c1) (by simpa using c2) c3 (u0r H.inv (.mk_con c4) q)
theorem v9y (i:Int):SndE cx CS (.gint i):=fun nm sc ex c A fs r env loc own σ h t Q E H q=>by
 replace c:=x2i c;obtain⟨x,p,j,tk,rfl,c,e,rfl⟩:=c;rw [x8l]at q
 simp only [Bool.and_eq_true,Bool.not_eq_true',beq_iff_eq]at c
 exact u6p (v:=.int i tk) H.inv H.stat (by rw [H.stat.kindOf];exact c.1) (by simpa using c.2) (by unfold u4q;rw [e];simp) (u0r H.inv (.mk_int _ _) q)
theorem v8z {v:Expr} (hv:u6t v=false) (x:Str) (env:Env) (whole:Sem Value):attributeBase v x env whole=whole:=by
 cases v with
 |Call g es kw p=>cases g with
  |Name id q=>cases es with
   |nil=>cases kw with
    |nil=>exact(Bool.false_ne_true hv.symm).elim
    |cons _ _=>rfl
   |cons _ _=>rfl
  |_=>rfl
 |_=>rfl
theorem w0c {m:ME} (n:Nat) (s1:SndE cx CS m):SndE cx CS (.attr m n):=fun nm sc ex c A fs r env loc own σ h t Q E H q=>by
 replace c:=w4y c;obtain⟨v,a,pos,rfl,c⟩:=c;rw [x8p]at q
 simp only [Bool.and_eq_true,beq_iff_eq,Bool.not_eq_true']at c
 refine al3 c fun c1 c2 c3=>?_
 refine Attribute_any_ ?_ (by show(do let o←attributeBase v a env (eval v env);_)=_;rw [v8z c2])
 refine step (s1 nm sc v c3 A fs r env loc own σ h t _ E H q) fun u own1 σ1 h1 t1 I x k p=>?_
 obtain⟨mo,ro,p⟩:=p
 exact v1l I c1 ro p fun m u t' rv q=>u0r I rv q
theorem v9x {a b:ME} (s1:SndE cx CS a) (s2:SndE cx CS b):SndE cx CS (.item a b):=fun nm sc ex c A fs r env loc own σ h t Q E H q=>by
 replace c:=w4u c;obtain⟨v,s,pos,rfl,c⟩:=c;rw [x8k]at q
 simp only [Bool.and_eq_true]at c
 refine Subscript_ ?_
 refine u0e (s1 nm sc v c.1 A fs r env loc own σ h t _ E H q) (fun _ _ e=>e) fun u own1 σ1 h1 t1 I x k p=>?_
 obtain⟨mo,ro,p⟩:=p
 have H1:=H.go I x k
 refine u0e (s2 nm sc s c.2 A fs r env loc own1 σ1 h1 t1 _ E H1 p) (fun _ _ e=>e.up x k) fun u2 own2 σ2 h2 t2 I2 x2 k2 p2=>?_
 obtain⟨mi,ri,p2⟩:=p2
 refine w0q I2 ?_ (ro.tk (I.tk0 k2)) ri p2 fun m v t' rv q=>((u0r I2 rv q).up x2 k2).up x k
 intro a' b' c' d' e
 subst e
 have c2:=c.2
 cases b<;>exact Bool.false_ne_true c2
theorem v3n {m:ME} (s1:SndE cx CS m):∀nm sc o,chkO cx.K T.sym nm sc m o=true→∀A fs r env loc own σ h t Q E,Here cx A fs r env nm sc loc own σ h→ewp T CS r m loc σ Q E→
  wpAny (model cx.prog cx.w) A (evalPart o env) (Pst cx fs noX own h (VQ cx Q)) (Pst cx fs noX own h (EQ E)) (cx.mk' h t):=fun nm sc o c A fs r env loc own σ h t Q E H q=>by
 cases o with
 |some e=>exact wpAny_evalPart_some (s1 nm sc _ c A fs r env loc own σ h t Q E H q)
 |none=>cases m with
  |none=>exact wpAny_evalPart_none (u0r H.inv .mk_none q)
  |_=>exact(Bool.false_ne_true c).elim
theorem v6a {a lo hi:ME} (s1:SndE cx CS a) (s2:SndE cx CS lo) (s3:SndE cx CS hi):SndE cx CS (.slice a lo hi):=fun nm sc ex c A fs r env loc own σ h t Q E H q=>by
 replace c:=w8g c;obtain⟨v,l,u,ps,pos,rfl,c⟩:=c;rw [x3a]at q
 simp only [Bool.and_eq_true]at c
 refine al3 c fun c1 c2 c3=>?_
 refine Subscript_ ?_
 refine u0e (s1 nm sc v c1 A fs r env loc own σ h t _ E H q) (fun _ _ e=>e) fun u own1 σ1 h1 t1 I x k p=>?_
 obtain⟨mo,ro,p⟩:=p
 have H1:=H.go I x k
 refine wpAny_Slice ?_
 refine u0e (v3n s2 nm sc _ c2 A fs r env loc own1 σ1 h1 t1 _ E H1 p) (fun _ _ e=>e.up x k) fun u2 own2 σ2 h2 t2 I2 x2 k2 p2=>?_
 obtain⟨ml,rl,p2⟩:=p2
 have H2:=H1.go I2 x2 k2
 refine u0e (v3n s3 nm sc _ c3 A fs r env loc own2 σ2 h2 t2 _ E H2 p2) (fun _ _ e=>(e.up x2 k2).up x k) fun u3 own3 σ3 h3 t3 I3 x3 k3 p3=>?_
 obtain⟨mh,rh,p3⟩:=p3
 refine wpAny_evalPart_none ?_
 refine wpAny_mono (v6b (X:=noX) I3 ((ro.tk (I.tk0 k2)).tk (I2.tk0 k3)) (rl.tk (I2.tk0 k3)) rh p3) (fun _ _ q=>((q.up x3 k3).up x2 k2).up x k) fun _ _ q=>((Pst.up x3 k3 q).up x2 k2).up x k
theorem w2r {op:Operator} {a b:ME} (s1:SndE cx CS a) (s2:SndE cx CS b):SndE cx CS (.bin op a b):=fun nm sc ex c A fs r env loc own σ h t Q E H q=>by
 replace c:=x0s c;obtain⟨l,o,rr,pos,rfl,c⟩:=c;rw [y8z]at q
 simp only [Bool.and_eq_true,beq_iff_eq]at c
 obtain⟨⟨rfl,c1⟩,c2⟩:=c
 refine wpAny_BinOp ?_
 refine u0e (s1 nm sc l c1 A fs r env loc own σ h t _ E H q) (fun _ _ e=>e) fun u own1 σ1 h1 t1 I x k p=>?_
 obtain⟨ma,ra,p⟩:=p
 have H1:=H.go I x k
 refine u0e (s2 nm sc rr c2 A fs r env loc own1 σ1 h1 t1 _ E H1 p) (fun _ _ e=>e.up x k) fun u2 own2 σ2 h2 t2 I2 x2 k2 p2=>?_
 obtain⟨mb,rb,p2⟩:=p2
 exact wpAny_mono (w6o (X:=noX) I2 (ra.tk (I.tk0 k2)) rb p2) (fun _ _ q=>(q.up x2 k2).up x k) fun _ _ q=>(Pst.up x2 k2 q).up x k
theorem w2l {a:ME} (s1:SndE cx CS a):SndE cx CS (.not a):=fun nm sc ex c A fs r env loc own σ h t Q E H q=>by
 replace c:=x0o c;obtain⟨e,pos,rfl,c⟩:=c;rw [y8u]at q
 refine wpAny_UnaryOp ?_
 refine step (s1 nm sc e c A fs r env loc own σ h t _ E H q) fun u own1 σ1 h1 t1 I x k p=>?_
 obtain⟨ma,ra,p⟩:=p
 exact not_of (u5x ra p fun b t' q=>u0r I (.mk_bool _) q)
theorem w2m {a:ME} (s1:SndE cx CS a):SndE cx CS (.neg a):=fun nm sc ex c A fs r env loc own σ h t Q E H q=>by
 replace c:=x7i c;obtain⟨e,pos,rfl,c⟩:=c;rw [y8v]at q
 refine wpAny_UnaryOp ?_
 refine step (s1 nm sc e c A fs r env loc own σ h t _ E H q) fun u own1 σ1 h1 t1 I x k p=>?_
 obtain⟨ma,ra,p⟩:=p
 cases ma with
 |int i=>
  obtain⟨t',rfl⟩:=ra.int_inv
  exact PyProof.Rows.neg_int (u0r I (.mk_int _ _) p)
 |_=>exact p.elim
theorem w2s {ms:List ME} (s1:SndB cx CS ms):SndE cx CS (.and ms):=fun nm sc ex c A fs r env loc own σ h t Q E H q=>by
 replace c:=x0t c;obtain⟨_,_,rfl,c⟩:=c;rw [y9a]at q
 exact s1 nm sc _ c true _ A fs r env loc own σ h t Q E H q
theorem w6z {ms:List ME} (s1:SndB cx CS ms):SndE cx CS (.or ms):=fun nm sc ex c A fs r env loc own σ h t Q E H q=>by
 replace c:=x7h c;obtain⟨_,_,rfl,c⟩:=c;rw [e_or]at q
 exact s1 nm sc _ c false _ A fs r env loc own σ h t Q E H q
theorem u8z {m:ME} {e:Expr} (c:chkE cx.K T.sym nm sc m e=true) (op:CmpOp):behindInMarks op e=false:=by
 cases e<;>first|rfl|(exfalso;cases m<;>exact Bool.false_ne_true c)
theorem ACtx.u64 (a:ACtx A fs r):A.units+64<cLine:=by
 have:=a.units
 show _<9900
 lia
theorem x5z {e e':Expr} {m:ME} (c:chkE cx.K T.sym nm sc m e'=true) (op op':CmpOp):lastMarks [op,op'] [e,e']=false:=u8z c op'
theorem v5m {op op':CmpOp} {a b d:ME} (s1:SndE cx CS a) (s2:SndE cx CS b) (s3:SndE cx CS d):SndT cx CS (.cmp2 op op' a b d):=fun nm sc ex c A fs r env loc own σ h t Q E H q=>by
 replace c:=x2j c;obtain⟨l,o,o',rr,rr',pos,rfl,c⟩:=c;rw [x0b]at q
 simp only [Bool.and_eq_true,beq_iff_eq]at c
 obtain⟨⟨⟨⟨rfl,rfl⟩,c1⟩,c2⟩,c3⟩:=c
 refine isTrue_chain ?_ (x5z c3 op op')
 refine u0e (s1 nm sc l c1 A fs r env loc own σ h t _ E H q) (fun _ _ e=>e) fun u own1 σ1 h1 t1 I x k p=>?_
 obtain⟨ma,ra,p⟩:=p
 have H1:=H.go I x k
 refine test_link ?_
 refine u0e (s2 nm sc rr c2 A fs r env loc own1 σ1 h1 t1 _ E H1 p) (fun _ _ e=>e.up x k) fun u2 own2 σ2 h2 t2 I2 x2 k2 p2=>?_
 obtain⟨mb,rb,p2⟩:=p2
 refine u6z I2 H.around.u64 (ra.tk (I.tk0 k2)) rb p2 fun b t' q=>wpAny_truthy_bool ?_
 cases b with
 |false=>exact((Pst.here I2 q).up x2 k2).up x k
 |true=>
  have H2:=H1.go I2 x2 k2
  refine test_last ?_
  refine u0e (s3 nm sc rr' c3 A fs r env loc own2 σ2 h2 t' _ E H2 q) (fun _ _ e=>(e.up x2 k2).up x k) fun u3 own3 σ3 h3 t3 I3 x3 k3 p3=>?_
  obtain⟨mc,rc,p3⟩:=p3
  exact u6z I3 H.around.u64 (rb.tk (I2.tk0 k3)) rc p3 fun b t' q=>wpAny_truthy_bool ((((Pst.here I3 q).up x3 k3).up x2 k2).up x k)
theorem w2k {a:ME} (s1:SndE cx CS a):SndE cx CS (.rev a):=fun nm sc ex c A fs r env loc own σ h t Q E H q=>by
 replace c:=x7g c;obtain⟨v,p1,p2,p3,ps,pos,rfl,c⟩:=c;rw [x8h]at q
 refine Subscript_ ?_
 refine u0e (s1 nm sc v c A fs r env loc own σ h t _ E H q) (fun _ _ e=>e) fun u own1 σ1 h1 t1 I x k p=>?_
 obtain⟨mo,ro,p⟩:=p
 refine wpAny_Slice (wpAny_evalPart_none (wpAny_evalPart_none (wpAny_evalPart_some (UnaryOp_ (wpAny_Constant_int (PyProof.Rows.neg_int ?_))))))
 exact wpAny_mono (w3g (X:=noX) I ro p) (fun _ _ q=>q.up x k) fun _ _ q=>Pst.up x k q
theorem w2q {op:CmpOp} {a b:ME} (s1:SndE cx CS a) (s2:SndE cx CS b):SndE cx CS (.cmp op a b):=fun nm sc ex c A fs r env loc own σ h t Q E H q=>by
 replace c:=x0r c;obtain⟨l,o,rr,pos,rfl,c⟩:=c;rw [y8y]at q
 simp only [Bool.and_eq_true,beq_iff_eq]at c
 obtain⟨⟨rfl,c1⟩,c2⟩:=c
 refine wpAny_Compare1 ?_ (u8z c2 op)
 refine u0e (s1 nm sc l c1 A fs r env loc own σ h t _ E H q) (fun _ _ e=>e) fun u own1 σ1 h1 t1 I x k p=>?_
 obtain⟨ma,ra,p⟩:=p
 have H1:=H.go I x k
 refine u0e (s2 nm sc rr c2 A fs r env loc own1 σ1 h1 t1 _ E H1 p) (fun _ _ e=>e.up x k) fun u2 own2 σ2 h2 t2 I2 x2 k2 p2=>?_
 obtain⟨mb,rb,p2⟩:=p2
 exact u6z I2 H.around.u64 (ra.tk (I.tk0 k2)) rb p2 fun b t' q=>((u0r I2 (.mk_bool b) q).up x2 k2).up x k
theorem v9g {op:CmpOp} {a b:ME} (s1:SndE cx CS a) (s2:SndE cx CS b):SndT cx CS (.cmp op a b):=fun nm sc ex c A fs r env loc own σ h t Q E H q=>by
 replace c:=x0r c;obtain⟨l,o,rr,pos,rfl,c⟩:=c;rw [x9u]at q
 simp only [Bool.and_eq_true,beq_iff_eq]at c
 obtain⟨⟨rfl,c1⟩,c2⟩:=c
 refine wpAny_isTrue_Compare1 ?_ (u8z c2 op)
 refine u0e (s1 nm sc l c1 A fs r env loc own σ h t _ E H q) (fun _ _ e=>e) fun u own1 σ1 h1 t1 I x k p=>?_
 obtain⟨ma,ra,p⟩:=p
 have H1:=H.go I x k
 refine u0e (s2 nm sc rr c2 A fs r env loc own1 σ1 h1 t1 _ E H1 p) (fun _ _ e=>e.up x k) fun u2 own2 σ2 h2 t2 I2 x2 k2 p2=>?_
 obtain⟨mb,rb,p2⟩:=p2
 exact u6z I2 H.around.u64 (ra.tk (I.tk0 k2)) rb p2 fun b t' q=>wpAny_truthy_bool (((Pst.here I2 q).up x2 k2).up x k)
end
end Mine
end
section
open PySem PySem.W PyProof.Rows PySem.Builtin.ObjectAttr
set_option maxRecDepth 20000
namespace Mine
section
variable {T:Tab} {cx:Cx T} {CS:u1n} {A:Around} {fs:List Env} {r:Nat} {env:Env} {nm:Nm} {sc:Sc} {loc:Loc} {own own1:Addr→Option Addr} {σ σ1:Hp} {h h0 h1 h2 h':Heap} {t:Nat} {X Y:Addr→Prop}
theorem Inv.butsB (I:Inv cx fs own σ h) (hX:∀a,X a→own a=none∧cx.base.get? a=none∧(u0o fs a→∃o es n,h'.get? a=some o∧o.data=.dict es n)∧∀ys n,h.get? a=some (u0z ys n)→cx.ban a∧∃ys n,h'.get? a=some (u0z ys n))
  (hk:∀b o,¬X b→h.get? b=some o→h'.get? b=some o):Inv cx fs own σ h'∧TK cx.sy h h':=by
 have tk:TK cx.sy h h':=fun a ys n nb e=>hk a _ (fun x=>nb ((hX a x).2.2.2 ys n e).1) e
 refine⟨⟨fun b o e=>hk b o (fun x=>?_) (I.base b o e),fun a x e=>?_,I.ownr,fun a o e=>?_,fun ev hm=>?_,fun a b=>?_⟩,tk⟩
 ·rw [(hX b x).2.1]at e;cases e
 ·refine u0a (I.ownd a x e) fun z1 zz1=>?_
  refine u0d zz1 fun o z2 z3=>?_
  exact⟨z1,o,hk a o (fun x=>by rw [(hX a x).1]at e;cases e) z2,z3⟩
 ·exact I.objK e tk (fun _ _ z=>z) (fun _ z=>z) fun b oo e1 e2=>hk b oo (fun x=>by rw [(hX b x).1]at e1;cases e1) e2
 ·refine u2o (I.frames ev hm) fun L o es n f1 f2 f3 f4 f5 f7=>?_
  by_cases x:X L
  ·refine u7o ((hX L x).2.2.1 ⟨ev,hm,f1⟩) fun o' es' n' g1 g2=>?_
   exact⟨L,o',es',n',f1,f2,f3,g1,g2,f7⟩
  ·exact⟨L,o,es,n,f1,f2,f3,hk L o x f4,f5,f7⟩
 ·refine u1j (I.bans a b) fun ys n e=>?_
  by_cases x:X a
  ·exact((hX a x).2.2.2 ys n e).2
  ·exact⟨ys,n,hk a _ x e⟩
theorem Inv.buts (I:Inv cx fs own σ h) (hX:∀a,X a→own a=none∧cx.base.get? a=none∧(u0o fs a→∃o es n,h'.get? a=some o∧o.data=.dict es n)∧∀ys n,h.get? a≠some (u0z ys n))
  (hk:∀b o,¬X b→h.get? b=some o→h'.get? b=some o):Inv cx fs own σ h'∧TK cx.sy h h':=
 I.butsB (fun a x=>⟨(hX a x).1,(hX a x).2.1,(hX a x).2.2.1,fun ys n e=>absurd e ((hX a x).2.2.2 ys n)⟩) hk
structure Hid (X:Addr→Prop) (h h':Heap):Prop where
 same:∀b o,¬X b→h.get? b=some o→h'.get? b=some o
 live:∀b o,X b→h.get? b=some o→∃o',h'.get? b=some o'
theorem Hid.refl (X:Addr→Prop) (h:Heap):Hid X h h:=⟨fun _ _ _ e=>e,fun _ o _ e=>⟨o,e⟩⟩
theorem Hid.trans (x:Hid X h h1) (y:Hid X h1 h2):Hid X h h2:=by
 refine⟨fun b o n e=>y.same b o n (x.same b o n e),fun b o n e=>?_⟩
 refine u0i (x.live b o n e) fun o' e'=>?_
 exact y.live b o' n e'
theorem Hid.mono (x:Hid X h h1) (s:∀a,X a→Y a):Hid Y h h1:=by
 refine⟨fun b o n e=>x.same b o (fun z=>n (s b z)) e,fun b o _ e=>?_⟩
 by_cases z:X b
 ·exact x.live b o z e
 ·exact⟨o,x.same b o z e⟩
theorem Hid.grow (hk:∀b o,h.get? b=some o→h'.get? b=some o):Hid X h h':=⟨fun b o _ e=>hk b o e,fun b o _ e=>⟨o,hk b o e⟩⟩
theorem Keep.buts (k:Keep fs own X h0 h1) (hk:∀b o,¬Y b→h1.get? b=some o→h2.get? b=some o) (hY:∀a,Y a→(X a∧∀o,h1.get? a=some o→∃o',h2.get? a=some o')∨h0.get? a=none):Keep fs own X h0 h2:=by
 refine⟨fun a o e=>?_,fun a o e n hx=>?_,fun a o x e nx g=>?_⟩
 ·refine u0i (k.live a o e) fun o' e'=>?_
  by_cases y:Y a
  ·refine Or.elim (hY a y) (fun zz501=>?_) (fun z=>?_)
   ·obtain⟨_,z⟩:=zz501
    exact z o' e'
   ·rw [e]at z;cases z
  ·exact⟨o',hk a o' y e'⟩
 ·have y:¬Y a:=fun y=>by
   refine Or.elim (hY a y) (fun zz502=>?_) (fun z=>?_)
   ·obtain⟨z,_⟩:=zz502
    exact hx z
   ·rw [e]at z;cases z
  refine Or.elim (k.same a o e n hx) (fun z=>?_) (fun zz503=>?_)
  ·exact .inl (hk a o y z)
  ·obtain⟨z,sl,z'⟩:=zz503
   exact .inr ⟨z,sl,hk a _ y z'⟩
 ·refine u0d (k.kls a o x e nx g) fun o1 g1 c1=>?_
  refine⟨o1,hk a o1 (fun y=>?_) g1,c1⟩
  refine Or.elim (hY a y) (fun zz504=>?_) (fun z=>?_)
  ·obtain⟨z,_⟩:=zz504
   exact nx z
  ·rw [g]at z;cases z
theorem Keep.hid (k:Keep fs own X h0 h1) (x:Hid Y h1 h2) (hY:∀a,Y a→X a∨h0.get? a=none):Keep fs own X h0 h2:=
 k.buts x.same fun a y=>(hY a y).imp (fun z=>⟨z,fun o e=>x.live a o y e⟩) id
noncomputable def Odd (h:Heap) (a:Addr):Prop:=∀o,h.get? a=some o→(∀es n,o.data≠ .dict es n)∧∀v,o.data≠ .cell v
theorem ERel.odds (R:ERel cx env sc loc own h) (ho:∀a,X a→Odd h a) (hk:∀b o,¬X b→h.get? b=some o→h'.get? b=some o) (tk:TK cx.sy h h'):ERel cx env sc loc own h':=by
 obtain⟨⟨m,ns,l⟩,oL,bL,cells,inj,scInj⟩:=R
 refine⟨⟨m,?_,fun x i mv h1 h2 h3=>?_⟩,oL,bL,fun x i h1 h2=>?_,inj,scInj⟩
 ·refine u1b ns fun o es ep e d r=>?_
  exact⟨o,es,ep,hk _ o (fun z=>(ho _ z o e).1 _ _ d) e,d,r⟩
 ·refine u0d (l x i mv h1 h2 h3) fun v h4 h5=>?_
  exact⟨v,h4,h5.tk tk⟩
 ·refine u7m (cells x i h1 h2) fun c o vo c1 c2 c3 c4 c5 c6 c8=>?_
  refine⟨c,o,vo,c1,hk c o (fun z=>(ho _ z o c2).2 _ c3) c2,c3,c4,c5,c6,fun mv hm=>?_⟩
  refine u0d (c8 mv hm) fun v h4 h5=>?_
  exact⟨v,h4,h5.tk tk⟩
theorem ERel.odd (R:ERel cx env sc loc own h) {a:Addr} (ho:Odd h a) (hk:∀b o,b≠a→h.get? b=some o→h'.get? b=some o) (tk:TK cx.sy h h'):ERel cx env sc loc own h':=
 R.odds (X:=fun b=>b=a) (fun b z=>z▸ho) hk tk
theorem ERel.grow (R:ERel cx env sc loc own h) (hk:∀b o,h.get? b=some o→h'.get? b=some o):ERel cx env sc loc own h':=by
 have tk:TK cx.sy h h':=fun a ys n _ e=>hk a _ e
 obtain⟨⟨m,ns,l⟩,oL,bL,cells,inj,scInj⟩:=R
 refine⟨⟨m,ns.keeps hk,fun x i mv h1 h2 h3=>?_⟩,oL,bL,fun x i h1 h2=>?_,inj,scInj⟩
 ·refine u0d (l x i mv h1 h2 h3) fun v h4 h5=>?_
  exact⟨v,h4,h5.tk tk⟩
 ·refine u7m (cells x i h1 h2) fun c o vo c1 c2 c3 c4 c5 c6 c8=>?_
  refine⟨c,o,vo,c1,hk c o c2,c3,c4,c5,c6,fun mv hm=>?_⟩
  refine u0d (c8 mv hm) fun v h4 h5=>?_
  exact⟨v,h4,h5.tk tk⟩
theorem Inv.grow (I:Inv cx fs own σ h) (hk:∀b o,h.get? b=some o→h'.get? b=some o):Inv cx fs own σ h'∧TK cx.sy h h':=
 I.buts (X:=noX) (fun _ x=>x.elim) fun b o _ e=>hk b o e
theorem u4d {i j:Nat} {x:Option MV} {mv:MV} (e:(loc.set i x)[j]?=some (some mv)):(i=j∧x=some mv)∨(i≠j∧loc[j]?=some (some mv)):=by
 rw [List.getElem?_set]at e
 by_cases q:i=j
 ·subst q
  simp only [if_true]at e
  split at e
  ·cases e;exact .inl ⟨rfl,rfl⟩
  ·cases e
 ·rw [if_neg q]at e
  exact .inr ⟨q,e⟩
theorem w4j {k:ScopeKind} (e:k=.function) (b:Bool):(k==.class||(k==.module && b))=false:=by subst e;rfl
noncomputable def wrX (env:Env) (tn:List Str) (a:Addr):Prop:=a=env.locals∨∃x ∈ tn,env.cells.lookup x=some a∧env.kindOf x=some .cell
theorem u3q {tn:List Str} {a:Addr} (hs:∀y ∈ tn,∃i,sc.lookup y=some i) (x:wrX env tn a):u2f env sc a:=x.imp id fun z=>u0d z fun y hy z=>(hs y hy).elim fun i hi=>⟨y,i,hi,z⟩
theorem u2g (S:EStat env nm) (I:Inv cx fs own σ h) (R:ERel cx env sc loc own h) {x:Str} {i:Nat} {m:MV} {v:Value} {Q:Unit→Shared→Prop} {E:Value→Shared→Prop} {M:Model}
  (hi:sc.lookup x=some i) (hk:nm.lookup x=some .local∨nm.lookup x=some .cell) (rv:VRel cx.sy h m v)
  (k:∀h' t',Inv cx fs own σ h'→ERel cx env sc (loc.set i (some m)) own h'→Hid (wrX env [x]) h h'→TK cx.sy h h'→Q () (cx.mk' h' t')):wpAny M A (storeName env x v) Q E (cx.mk' h t):=by
 obtain⟨⟨ns,hns,hl⟩,oL,bL,cells,inj,scInj⟩:=R
 rw [←S.kindOf]at hk
 refine Or.elim hk (fun hk=>?_) (fun hk=>?_)
 ·refine wpAny_storeName_local hk hns (fun h' hn' sb=>?_) (w4j S.kind _)
  have ht:=sb.extBut
  refine u1b hns fun o0 es0 n0 e0 d0 _=>?_
  have old:h.get? env.locals=some o0:=e0
  refine u1b (id hn') fun o1 es1 n1 e1 d1 _=>?_
  obtain⟨I',tk⟩:=I.buts (X:=fun b=>b=env.locals) (h':=h') (fun a x=>by
   subst x
   refine⟨oL,bL,fun _=>⟨o1,es1,n1,e1,d1⟩,fun ys n e=>?_⟩
   rw [old]at e;cases e;cases d0) fun b o hb e=>ht b o hb e
  refine k h' _ I' ⟨⟨_,hn',fun y j mv g1 g2 g3=>?_⟩,oL,bL,fun y j g1 g2=>?_,inj,scInj⟩ ⟨fun b o hb e=>ht b o (fun z=>hb (.inl z)) e,fun b o hb e=>?_⟩ tk
  ·by_cases q:y=x
   ·subst q
    rw [hi]at g1;cases g1
    refine Or.elim (u4d g2) (fun zz505=>?_) (fun zz506=>?_)
    ·obtain⟨_,z⟩:=zz505
     cases z
     exact⟨v,by simp,rv.tk tk⟩
    ·obtain⟨z,_⟩:=zz506
     exact absurd rfl z
   ·refine Or.elim (u4d g2) (fun zz507=>?_) (fun zz508=>?_)
    ·obtain⟨z,_⟩:=zz507
     subst z;exact absurd (scInj y x i g1 hi) q
    ·obtain⟨_,z⟩:=zz508
     refine u0d (hl y j mv g1 z g3) fun u u1 u2=>?_
     exact⟨u,by simp only [if_neg q];exact u1,u2.tk tk⟩
  ·refine u7m (cells y j g1 g2) fun c o vo c1 c2 c3 c4 c5 c6 c8=>?_
   refine⟨c,o,vo,c1,ht c o c6 c2,c3,c4,c5,c6,fun mv hm=>?_⟩
   refine Or.elim (u4d hm) (fun zz509=>?_) (fun zz510=>?_)
   ·obtain⟨z,_⟩:=zz509
    subst z
    have:=scInj y x i g1 hi
    subst this
    rw [hk]at g2;rcases g2 with g2|g2<;>cases g2
   ·obtain⟨_,z⟩:=zz510
    refine u0d (c8 mv z) fun u u1 u2=>?_
    exact⟨u,u1,u2.tk tk⟩
  ·by_cases z:b=env.locals
   ·subst z;exact⟨o1,e1⟩
   ·exact⟨o,ht b o z e⟩
 ·refine u7m (cells x i hi (.inl hk)) fun c o vo c1 c2 c3 c4 c5 c6 c8=>?_
  refine wpAny_storeName_cell S.kind hk c1 ⟨o,c2,c3⟩ fun h' hc' sb=>?_
  have ht:=sb.extBut
  have c2':h.get? c=some o:=c2
  refine u0d hc' fun o1 e1 d1=>?_
  obtain⟨I',tk⟩:=I.buts (X:=fun b=>b=c) (h':=h') (fun a x=>by
   subst x
   refine⟨c4,c5,fun z=>?_,fun ys n e=>?_⟩
   ·refine u0d z fun ev hm hf=>?_
    refine u2o (I.frames ev hm) fun L o' es n f1 f2 f3 f4 f5 f7=>?_
    rw [hf]at f1;cases f1
    rw [c2']at f4;cases f4;rw [c3]at f5;cases f5
   ·rw [c2']at e;cases e;cases c3) fun b o hb e=>ht b o hb e
  have fx:wrX env [x] c:=.inr ⟨x,by simp,c1,hk⟩
  refine k h' t I' ⟨⟨ns,?_,fun y j mv g1 g2 g3=>?_⟩,oL,bL,fun y j g1 g2=>?_,inj,scInj⟩ ⟨fun b o hb e=>ht b o (fun z=>hb (z▸fx)) e,fun b o hb e=>?_⟩ tk
  ·refine u7o hns fun o' es ep e d=>?_
   exact⟨o',es,ep,ht _ _ (fun z=>c6 z.symm) e,d⟩
  ·refine Or.elim (u4d g2) (fun zz511=>?_) (fun zz512=>?_)
   ·obtain⟨z,_⟩:=zz511
    subst z
    have:=scInj y x i g1 hi
    subst this
    rw [hk]at g3;cases g3
   ·obtain⟨_,z⟩:=zz512
    refine u0d (hl y j mv g1 z g3) fun u u1 u2=>?_
    exact⟨u,u1,u2.tk tk⟩
  ·refine u7m (cells y j g1 g2) fun c' o' vo' b1 b2 b3 b4 b5 b6 b8=>?_
   by_cases q:y=x
   ·subst q
    rw [hi]at g1;cases g1
    rw [c1]at b1;cases b1
    refine⟨c,o1,some v,c1,e1,d1,c4,c5,c6,fun mv hm=>?_⟩
    refine Or.elim (u4d hm) (fun zz513=>?_) (fun zz514=>?_)
    ·obtain⟨_,z⟩:=zz513
     cases z;exact⟨v,rfl,rv.tk tk⟩
    ·obtain⟨z,_⟩:=zz514
     exact absurd rfl z
   ·refine⟨c',o',vo',b1,ht c' o' (fun z=>?_) b2,b3,b4,b5,b6,fun mv hm=>?_⟩
    ·subst z;exact q (inj y x _ b1 c1)
    ·refine Or.elim (u4d hm) (fun zz515=>?_) (fun zz516=>?_)
     ·obtain⟨z,_⟩:=zz515
      subst z;exact absurd (scInj y x i g1 hi) q
     ·obtain⟨_,z⟩:=zz516
      refine u0d (b8 mv z) fun u u1 u2=>?_
      exact⟨u,u1,u2.tk tk⟩
  ·by_cases z:b=c
   ·subst z;exact⟨o1,e1⟩
   ·exact⟨o,ht b o z e⟩
noncomputable def y9u (nm:Nm) (sc:Sc) (x:Str) (i:Nat):Prop:=sc.lookup x=some i∧(nm.lookup x=some .local∨nm.lookup x=some .cell)
noncomputable def u4z (nm:Nm) (sc:Sc):List Str→List Nat→Prop
 |[],[]=>True
 |x::xs,i::is=>y9u nm sc x i∧u4z nm sc xs is
 |_,_=>False
theorem v3j {M:Model} {E:Value→Shared→Prop} (S:EStat env nm) {es:List Expr}:∀{tn:List Str} {ti:List Nat} {ms:List MV} {vs:List Value} {loc:Loc} {h:Heap} {t:Nat} {Q:Unit→Shared→Prop},
  u6b es=some tn→u4z nm sc tn ti→ms.length=ti.length→Inv cx fs own σ h→ERel cx env sc loc own h→u0j cx.sy h ms vs→
  (∀h' t',Inv cx fs own σ h'→ERel cx env sc (u5y loc ti ms) own h'→Hid (wrX env tn) h h'→TK cx.sy h h'→Q () (cx.mk' h' t'))→
  wpAny M A (assignInOrder ((assignEach es env).map (·.2)) vs) Q E (cx.mk' h t):=by
 induction es with
 |nil=>
  intro tn ti ms vs loc h t Q e ok l I R rv k
  have z:=u8y e
  subst z
  cases ti with
  |cons _ _=>exact ok.elim
  |nil=>
   cases ms with
   |cons _ _=>cases l
   |nil=>exact assignInOrder_nil (k h t I R (.refl _ _) (TK.refl h))
 |cons ex es ih=>
  intro tn ti ms vs loc h t Q e ok l I R rv k
  refine u1b (u7r e) fun x p tn' zz2 e2 zz3=>?_
  subst zz2
  subst zz3
  cases ti with
  |nil=>exact ok.elim
  |cons i is=>
   cases ms with
   |nil=>cases l
   |cons m ms=>
    refine u1c rv.cons_inv fun v vs' zz4 rv1 rv2=>?_
    subst zz4
    refine assignInOrder_cons (wpAny_assign_Name (u2g S I R ok.1.1 ok.1.2 rv1 fun h' t' I' R' H tk=>?_))
    exact ih e2 ok.2 (Nat.succ.inj l) I' R' (rv2.tk tk) fun h'' t'' I'' R'' H' tk'=>k h'' t'' I'' R'' ((H.mono fun a z=>z.imp id fun z=>u0d z fun y hy z=>⟨y,List.mem_singleton.mp hy▸List.mem_cons_self ..,z⟩).trans (H'.mono fun a z=>z.imp id fun z=>u0d z fun y hy z=>⟨y,List.mem_cons_of_mem _ hy,z⟩)) (tk.trans tk')
theorem v6l {env:Env} {es:List Expr}:∀{tn:List Str},u6b es=some tn→
  (assignEach es env).length=tn.length∧(assignEach es env).findIdx? (·.1)=none:=by
 induction es with
 |nil=>intro tn e;rw [u8y e];exact⟨rfl,rfl⟩
 |cons ex es ih=>
  intro tn e
  refine u1b (u7r e) fun x p tn' zz5 e2 zz6=>?_
  rw [zz5,zz6]
  refine⟨congrArg Nat.succ (ih e2).1,?_⟩
  show List.findIdx? _ ((false,assign (.Name x p) env)::assignEach es env)=none
  rw [List.findIdx?_cons,(ih e2).2];rfl
theorem u4z.length {tn:List Str}:∀{ti:List Nat},u4z nm sc tn ti→tn.length=ti.length:=by
 induction tn with
 |nil=>intro ti ok;cases ti with|nil=>rfl|cons _ _=>exact ok.elim
 |cons _ _ ih=>intro ti ok;cases ti with|nil=>exact ok.elim|cons _ _=>exact congrArg Nat.succ (ih ok.2)
set_option tactic.hygienic true in
theorem u7p (hh:A.handled=none) (S:EStat env nm) (I:Inv cx fs own σ h) (R:ERel cx env sc loc own h) {target:Expr} {tn:List Str} {ti:List Nat} {one:Bool} {m:MV} {v:Value} {K:Loc→Prop} {Q:Unit→Shared→Prop} {E:Value→Shared→Prop}
  (ht:u0m target=some (tn,one)) (ok:u4z nm sc tn ti) (rv:VRel cx.sy h m v) (q:u9q ti one m loc K)
  (k:∀loc' h' t',K loc'→Inv cx fs own σ h'→ERel cx env sc loc' own h'→Hid (wrX env tn) h h'→TK cx.sy h h'→Q () (cx.mk' h' t')):wpAny (model cx.prog cx.w) A (assign target env v) Q E (cx.mk' h t):=by
 refine u0a q fun _ q=>?_
 cases target with
 |Name x p=>
  cases ht
  cases ti with
  |nil=>exact False.elim q
  |cons i rr=>
  cases rr with
  |cons _ _=>exact False.elim q
  |nil=>exact wpAny_assign_Name (u2g S I R ok.1.1 ok.1.2 rv fun h' t' I' R' H tk=>k _ h' t' q I' R' H tk)
 |Tuple es x1 p=>
  refine u0d (Option.map_eq_some_iff.mp ht) fun l e z=>?_
  cases z
  cases m with
  |tup xs=>
   refine u0a q fun hl q=>?_
   refine u1b rv.tup_inv fun a ys n zz7 g r=>?_
   subst zz7
   refine u0a (v6l (env:=env) e) fun z1 z2=>?_
   refine wpAny_assign_Tuple (s:=cx.mk' h t) hh (v0d g) (by rw [z1,ok.length,←hl,←r.length];simp) z2 fun h1 hx=>?_
   have hk:∀b o,h.get? b=some o→h1.get? b=some o:=fun b o e=>hx b o (fun z=>by
    have e':h.get? h.objs.size=some o:=by rw [←show b=h.objs.size from z];exact e
    rw [get?_size]at e';cases e') e
   refine u0a (I.grow hk) fun I1 tk1=>?_
   exact v3j S e ok hl I1 (R.grow hk) (r.tk tk1) fun h' t' I' R' H tk=>k _ h' t' q I' R' ((Hid.grow hk).trans H) (tk1.trans tk)
  |_=>exact False.elim q
 |_=>exact ns ht
end
end Mine
end
section
open PySem PySem.W PyProof.Rows PySem.Builtin.ObjectAttr
set_option maxRecDepth 20000
namespace Mine
noncomputable def Re (l:List Str) (b b':Addr→Prop) (h:Heap):Prop:=∀a ys n,¬b a→h.get? a=some (u0z ys n)→¬b' a
section
variable {l:List Str} {b b':Addr→Prop} {h:Heap}
theorem VRel.re (k:Re l b b' h) {m:MV} {v:Value} (r:VRel ⟨l,b⟩ h m v):VRel ⟨l,b'⟩ h m v:=VRel.mv (fun a ys n nb g=>⟨k a ys n nb g,g⟩) r
theorem u0j.re (k:Re l b b' h) {ms:List MV} {vs:List Value} (r:u0j ⟨l,b⟩ h ms vs):u0j ⟨l,b'⟩ h ms vs:=r.map fun p=>p.re k
theorem KvI.re (k:Re l b b' h) {kvs:List (Int×MV)} {es:List (Int×Value)} (r:KvI ⟨l,b⟩ h kvs es):KvI ⟨l,b'⟩ h kvs es:=r.map fun p=>p.re k
theorem KvS.re (k:Re l b b' h) {kvs:List (Nat×MV)} {es:List (Str×Value)} (r:KvS ⟨l,b⟩ h kvs es):KvS ⟨l,b'⟩ h kvs es:=r.map (fun p=>p.re k) rfl
end
section
variable {T:Tab} {cx:Cx T} {fs:List Env} {env:Env} {sc:Sc} {loc:Loc} {own:Addr→Option Addr} {σ:Hp} {h h':Heap} {X:Addr→Prop} {bn:Addr→Prop}
theorem FRel.re (k:Re T.sym cx.ban bn h) {l:List (Nat×MV)} {es:List DictEntry} (r:FRel cx h l es):FRel (cx.wb bn) h l es:=FRel.map (cx':=cx.wb bn) (fun p=>VRel.re k p) rfl r
theorem ORel.re (k:Re T.sym cx.ban bn h) {a:Addr} {mo:MObj} (r:ORel cx own h a mo):ORel (cx.wb bn) own h a mo:=by
 cases mo with
 |list xs=>refine u1m r fun ys n e r=>?_;exact⟨ys,n,e,r.re k⟩
 |dI kvs=>refine u0a r fun ns zz1=>?_;refine u0d zz1 fun l d q=>?_;exact⟨ns,l,d,q.re k⟩
 |dS kvs=>refine u0d r fun l d q=>?_;exact⟨l,d,q.re k⟩
 |inst C fs'=>refine v2p r fun dx es n e od ne ed r=>?_;exact⟨dx,es,n,e,od,ne,ed,r.re k⟩
 |frz ns=>exact r
 |exc C fs'=>
  refine u1b r fun od vs sl e tb r=>?_
  refine⟨od,vs,sl,e,tb,?_⟩
  refine Or.elim r (fun r=>?_) (fun zz501=>?_)
  ·exact .inl r
  ·obtain⟨dx,es,n,e1,e2,e3,e4,r⟩:=zz501
   exact .inr ⟨dx,es,n,e1,e2,e3,e4,r.re k⟩
theorem ERel.re (k:Re T.sym cx.ban bn h) (R:ERel cx env sc loc own h):ERel (cx.wb bn) env sc loc own h:=by
 obtain⟨⟨m,ns,l⟩,oL,bL,cells,inj,scInj⟩:=R
 refine⟨⟨m,ns,fun x i mv h1 h2 h3=>?_⟩,oL,bL,fun x i h1 h2=>?_,inj,scInj⟩
 ·refine u0d (l x i mv h1 h2 h3) fun v h4 h5=>?_
  exact⟨v,h4,h5.re k⟩
 ·refine u7m (cells x i h1 h2) fun c o vo c1 c2 c3 c4 c5 c6 c8=>?_
  refine⟨c,o,vo,c1,c2,c3,c4,c5,c6,fun mv hm=>?_⟩
  refine u0d (c8 mv hm) fun v h4 h5=>?_
  exact⟨v,h4,h5.re k⟩
theorem Inv.butsR (I:Inv cx fs own σ h) (hX:∀a,X a→own a=none∧cx.base.get? a=none∧¬u0o fs a∧∀ys n,h.get? a=some (u0z ys n)→cx.ban a)
  (hk:∀b o,¬X b→h.get? b=some o→h'.get? b=some o) (re:Re T.sym cx.ban bn h') (hb:∀a,bn a→∃ys n,h'.get? a=some (u0z ys n)):Inv (cx.wb bn) fs own σ h'∧TK cx.sy h h':=by
 have tk:TK cx.sy h h':=fun a ys n nb e=>hk a _ (fun x=>nb ((hX a x).2.2.2 ys n e)) e
 refine⟨⟨fun b o e=>hk b o (fun x=>?_) (I.base b o e),fun a x e=>?_,I.ownr,fun a o e=>?_,fun ev hm=>?_,hb⟩,tk⟩
 ·exact ns ((hX b x).2.1.symm.trans e)
 ·refine u0a (I.ownd a x e) fun z1 zz2=>?_
  refine u0d zz2 fun o z2 z3=>?_
  exact⟨z1,o,hk a o (fun x=>by rw [(hX a x).1]at e;cases e) z2,z3⟩
 ·refine u0a (I.objK e tk (fun _ _ z=>z) (fun _ z=>z) fun b oo e1 e2=>hk b oo (fun x=>by rw [(hX b x).1]at e1;cases e1) e2) fun z1 z2=>?_
  exact⟨z1,z2.re re⟩
 ·refine u2o (I.frames ev hm) fun L o es n f1 f2 f3 f4 f5 f7=>?_
  exact⟨L,o,es,n,f1,f2,f3,hk L o (fun x=>(hX L x).2.2.1 ⟨ev,hm,f1⟩) f4,f5,f7⟩
theorem Inv.re (I:Inv cx fs own σ h) (re:Re T.sym cx.ban bn h) (hb:∀a,bn a→∃ys n,h.get? a=some (u0z ys n)):Inv (cx.wb bn) fs own σ h:=
 (I.butsR (X:=noX) (fun _ x=>x.elim) (fun _ _ _ e=>e) re hb).1
theorem TK.sub {l:List Str} {b b':Addr→Prop} (s:∀a,b a→b' a) (k:TK ⟨l,b⟩ h h'):TK ⟨l,b'⟩ h h':=fun a ys n nb e=>k a ys n (fun z=>nb (s a z)) e
theorem Inv.startB (I:Inv cx fs own σ h) (hk:∀b o,h.get? b=some o→h'.get? b=some o) (re:Re T.sym cx.ban bn h) (hb:∀a,bn a→∃ys n,h'.get? a=some (u0z ys n)):Inv (cx.wb bn) fs own σ h':=by
 refine⟨fun b o e=>hk b o (I.base b o e),fun a x e=>?_,I.ownr,fun a o e=>?_,fun ev hm=>?_,hb⟩
 ·refine u0a (I.ownd a x e) fun z1 zz3=>?_
  refine u0d zz3 fun o z2 z3=>?_
  exact⟨z1,o,hk a o z2,z3⟩
 ·exact I.objK' (cy:=cx.wb bn) (I.objs' a o e).1 ((I.objs' a o e).2.re re) (fun a ys n _ e=>hk a _ e) (fun _ _ z=>z) (fun _ z=>z) fun b oo _ e2=>hk b oo e2
 ·refine u2o (I.frames ev hm) fun L o es n f1 f2 f3 f4 f5 f7=>?_
  exact⟨L,o,es,n,f1,f2,f3,hk L o f4,f5,f7⟩
end
end Mine
end
section
open PySem PySem.W PyProof.Rows PySem.Builtin.ObjectAttr
set_option maxRecDepth 20000
namespace Mine
set_option genCtorIdx false in
inductive ItK where
 |list (a:Addr)
 |tup (a:Addr)
 |range (n:Nat)
 |zip (a b TI TO i1 i2:Addr)
inductive ZipAt (sy:Sy) (a b TI TO i1 i2:Addr) (f:Value) (It:Addr) (xs rest:List MV) (h:Heap):Prop where
 |mk (i:Nat) (D:ZipApart It TI TO i1 i2 a b) (hz:IsZip h It TI TO f) (hTI:IsPair h TI (.ref i1) (.ref i2)) (x y:Value) (hTO:IsPair h TO x y) (l1:h.IsListIter i1 a i) (l2:h.IsListIter i2 b i)
   (nTI:¬sy.ban TI) (bTO:sy.ban TO) (d:rest=xs.drop i)
noncomputable def ItAt (sy:Sy) (k:ItK) (It:Addr) (xs rest:List MV) (h:Heap):Prop:=match k with
 |.list a=>∃i,i≤xs.length∧h.IsListIter It a i∧rest=xs.drop i
 |.tup a=>∃i ys n,i≤xs.length∧h.IsTupleIter It a i∧h.get? a=some (u0z ys n)∧(¬sy.ban a∧u0j sy h xs ys)∧rest=xs.drop i
 |.range n=>∃i:Nat,i≤n∧IsRangeIter h It (i:Int) ((n:Int)- i) 1∧xs=((List.range n).map fun(i:Nat)=>MV.int (i:Int))∧rest=xs.drop i
 |.zip a b TI TO i1 i2=>ZipAt sy a b TI TO i1 i2 .none It xs rest h
noncomputable def u9v (sy:Sy) (k:ItK) (v:Value) (It:Addr) (xs rest:List MV) (h:Heap):Prop:=match k with
 |.zip a b TI TO i1 i2=>∃w,v=.ref w∧ZipAt sy a b TI TO i1 i2 (rawInt w) It xs rest h
 |k=>ItAt sy k It xs rest h
noncomputable def ItK.plain (k:ItK):Bool:=match k with
 |.zip .. =>false
 |_=>true
noncomputable def ItSt (k:ItK) (xs:List MV) (σ:Hp):Prop:=match k with
 |.list a=>σ a=some (.list xs)
 |.zip a b _ _ _ _=>∃us vs,σ a=some (.list us)∧σ b=some (.list vs)∧xs=List.zipWith (fun x y=>.tup [x,y]) us vs
 |_=>True
noncomputable def ItX (k:ItK) (It b:Addr):Prop:=match k with
 |.zip _ _ _ TO i1 i2=>b=It∨b=TO∨b=i1∨b=i2
 |_=>b=It
theorem ItX.self (k:ItK) (It:Addr):ItX k It It:=by
 cases k with
 |zip=>exact .inl rfl
 |_=>exact rfl
section
variable {T:Tab} {cx:Cx T} {CS:u1n} {A:Around} {fs:List Env} {r:Nat} {env:Env} {nm:Nm} {sc:Sc} {loc:Loc} {own own1:Addr→Option Addr} {σ σ1:Hp} {h h0 h1 h2 h':Heap} {t:Nat} {X Y:Addr→Prop}
variable {k:ItK} {It:Addr} {xs rest:List MV}
theorem u9l {a b:String} (n:a≠b) {P:Prop} (e:Value.type a=Value.type b):P:=absurd (by cases e;rfl) n
noncomputable def OddB (sy:Sy) (h:Heap) (b:Addr):Prop:=∃o,h.get? b=some o∧(∀es n,o.data≠ .dict es n)∧(∀v,o.data≠ .cell v)∧(o.cls=.type "tuple" →sy.ban b)
theorem OddB.mk {sy:Sy} {b:Addr} {o:Obj} {n:String} {vs:Array Value} (e:h.get? b=some o) (c:o.cls=.type n) (hn:n≠ "tuple") (d:o.data=.fields vs):OddB sy h b:=
 ⟨o,e,(fun _ _ z=>by rw [d]at z;cases z),(fun _ z=>by rw [d]at z;cases z),fun z=>u9l hn (c.symm.trans z)⟩
theorem OddB.odd {sy:Sy} {b:Addr} (x:OddB sy h b):Odd h b∧∀ys n,h.get? b=some (u0z ys n)→sy.ban b:=by
 refine u4i x fun o e d1 d2 d3=>?_
 exact⟨fun o' e'=>by rw [e]at e';cases e';exact⟨d1,d2⟩,fun ys n e'=>by rw [e]at e';cases e';exact d3 rfl⟩
theorem ZipAt.odd {sy:Sy} {a b TI TO i1 i2:Addr} {f:Value} (z:ZipAt sy a b TI TO i1 i2 f It xs rest h) {c:Addr} (x:ItX (.zip a b TI TO i1 i2) It c):OddB sy h c:=by
 obtain⟨i,D,hz,hTI,u,v,hTO,⟨o1,e1,c1,d1⟩,⟨o2,e2,c2,d2⟩,nTI,bTO,d⟩:=z
 rcases x with rfl|rfl|rfl|rfl
 ·exact .mk hz rfl (by decide) rfl
 ·exact⟨_,hTO,(fun _ _ z=>by cases z),(fun _ z=>by cases z),fun _=>bTO⟩
 ·exact .mk e1 c1 (by decide) d1
 ·exact .mk e2 c2 (by decide) d2
theorem ItAt.odd (a:ItAt cx.sy k It xs rest h) {b:Addr} (x:ItX k It b):OddB cx.sy h b:=by
 cases k with
 |list _=>refine u1e a fun i _ zz1 _=>?_;refine u1e zz1 fun o e c d=>?_;obtain rfl:b=It:=x;exact .mk e c (by decide) d
 |tup _=>refine u1b a fun i _ _ _ zz2 _=>?_;refine u1e zz2 fun o e c d=>?_;obtain rfl:b=It:=x;exact .mk e c (by decide) d
 |range n=>refine u1e a fun i _ e _=>?_;obtain rfl:b=It:=x;exact .mk e rfl (by decide) rfl
 |zip=>exact ZipAt.odd a x
theorem u9v.odd {v:Value} (a:u9v cx.sy k v It xs rest h) {b:Addr} (x:ItX k It b):OddB cx.sy h b:=by
 cases k with
 |zip=>refine u0d a fun w _ a=>?_;exact a.odd x
 |list _=>exact ItAt.odd (cx:=cx) (k:=.list _) a x
 |tup _=>exact ItAt.odd (cx:=cx) (k:=.tup _) a x
 |range _=>exact ItAt.odd (cx:=cx) (k:=.range _) a x
theorem ItAt.tk (a:ItAt cx.sy k It xs rest h) (hk:∀b o,¬ItX k It b→h.get? b=some o→h'.get? b=some o):TK cx.sy h h':=fun c ys n nb e=>hk c _ (fun x=>nb ((a.odd x).odd.2 ys n e)) e
theorem u9v.tk {v:Value} (a:u9v cx.sy k v It xs rest h) (hk:∀b o,¬ItX k It b→h.get? b=some o→h'.get? b=some o):TK cx.sy h h':=fun c ys n nb e=>hk c _ (fun x=>nb ((a.odd x).odd.2 ys n e)) e
theorem u9v.nt {v:Value} (a:u9v cx.sy k v It xs rest h):∀ys n,h.get? It≠some (u0z ys n):=by
 cases k with
 |zip=>refine u0d a fun w _ zz3=>?_;obtain⟨i,D,hz,_⟩:=zz3;exact fun ys n e=>u9l (by decide) (congrArg Obj.cls (Option.some.inj ((show h.get? It=_ from hz).symm.trans e)))
 |list _=>refine u1e a fun i _ zz4 _=>?_;refine u1e zz4 fun o e' c d=>?_;exact fun ys n e=>u9l (by decide) (c.symm.trans (congrArg Obj.cls (Option.some.inj ((show h.get? It=_ from e').symm.trans e))))
 |tup _=>refine u1b a fun i _ _ _ zz5 _=>?_;refine u1e zz5 fun o e' c d=>?_;exact fun ys n e=>u9l (by decide) (c.symm.trans (congrArg Obj.cls (Option.some.inj ((show h.get? It=_ from e').symm.trans e))))
 |range _=>refine u1e a fun i _ e' _=>?_;exact fun ys n e=>u9l (by decide) (congrArg Obj.cls (Option.some.inj ((show h.get? It=_ from e').symm.trans e)))
theorem ItAt.mid (a:ItAt cx.sy k It xs rest h):k.plain=true→u9v cx.sy k .none It xs rest h:=fun z=>by
 cases k with
 |zip=>exact(Bool.false_ne_true z).elim
 |_=>exact a
theorem u9v.stay {v:Value} {rest':List MV} (a:ItAt cx.sy k It xs rest h) (m:u9v cx.sy k v It xs rest' h') {b:Addr} (x:ItX k It b) {ys:List Value} {n:Nat} (e:h.get? b=some (u0z ys n)):∃ys n,h'.get? b=some (u0z ys n):=by
 cases k with
 |zip=>
  refine u0d m fun w _ zz6=>?_
  obtain⟨_,_,_,_,u,v,hTO,_⟩:=zz6
  obtain⟨_,_,hz,_,_,_,_,⟨o1,e1,c1,_⟩,⟨o2,e2,c2,_⟩,_⟩:=a
  rcases x with rfl|rfl|rfl|rfl
  ·exact u9l (by decide) (congrArg Obj.cls (Option.some.inj ((show h.get? b=_ from hz).symm.trans e)))
  ·exact⟨[u,v],0,hTO⟩
  ·exact u9l (by decide) (c1.symm.trans (congrArg Obj.cls (Option.some.inj ((show h.get? b=_ from e1).symm.trans e))))
  ·exact u9l (by decide) (c2.symm.trans (congrArg Obj.cls (Option.some.inj ((show h.get? b=_ from e2).symm.trans e))))
 |list _=>obtain rfl:b=It:=x;exact absurd e ((ItAt.mid (cx:=cx) a rfl).nt _ _)
 |tup _=>obtain rfl:b=It:=x;exact absurd e ((ItAt.mid (cx:=cx) a rfl).nt _ _)
 |range _=>obtain rfl:b=It:=x;exact absurd e ((ItAt.mid (cx:=cx) a rfl).nt _ _)
theorem ItAt.keep (a:ItAt cx.sy k It xs rest h) (tk:TK cx.sy h h') (hk:∀b o,ItX k It b→h.get? b=some o→h'.get? b=some o):ItAt cx.sy k It xs rest h':=by
 cases k with
 |list b=>
  refine u1e a fun i l zz7 d=>?_
  refine u0d zz7 fun o e c=>?_
  exact⟨i,l,⟨o,hk It o rfl e,c⟩,d⟩
 |tup b=>
  refine v2p a fun i ys n l zz8 g zz9 d=>?_
  refine u0d zz8 fun o e c=>?_
  refine u0a zz9 fun nb v=>?_
  exact⟨i,ys,n,l,⟨o,hk It o rfl e,c⟩,tk _ _ _ nb g,⟨nb,v.tk tk⟩,d⟩
 |range n=>
  refine u1e a fun i l e c=>?_
  exact⟨i,l,hk It _ rfl e,c⟩
 |zip=>
  obtain⟨i,D,hz,hTI,u,v,hTO,⟨o1,e1,c1⟩,⟨o2,e2,c2⟩,nTI,bTO,d⟩:=a
  exact⟨i,D,hk _ _ (.inl rfl) hz,tk _ [_,_] _ nTI hTI,u,v,hk _ _ (.inr (.inl rfl)) hTO,⟨o1,hk _ _ (.inr (.inr (.inl rfl))) e1,c1⟩,⟨o2,hk _ _ (.inr (.inr (.inr rfl))) e2,c2⟩,nTI,bTO,d⟩
theorem u6w {α:Type} {xs rest:List α} {x:α} {i:Nat} (e:x::rest=xs.drop i):xs[i]?=some x∧rest=xs.drop (i+1):=by
 have h1:xs[i]?=some x:=by rw [←List.head?_drop,←e];rfl
 have h2:(xs.drop i).drop 1=rest:=by rw [←e];rfl
 exact⟨h1,by rw [←h2,List.drop_drop]⟩
theorem drop_nil {α:Type} {xs:List α} {i:Nat} (e:[]=xs.drop i):xs.length≤i:=List.drop_eq_nil_iff.mp e.symm
theorem v1e (hh:A.handled=none) (I:Inv cx fs own σ h) (a:ItAt cx.sy k It xs rest h) (st:ItSt k xs σ) {Q:Option Value→Shared→Prop} {E:Value→Shared→Prop}
  (kend:rest=[]→∀h' t',(∀b o,¬ItX k It b→h.get? b=some o→h'.get? b=some o)→Q none (cx.mk' h' t'))
  (kitem:∀x rest' v h' t',rest=x::rest'→VRel cx.sy h' x v→u9v cx.sy k v It xs rest' h'→(∀b o,¬ItX k It b→h.get? b=some o→h'.get? b=some o)→Q (some v) (cx.mk' h' t')):
  wpAny (model cx.prog cx.w) A (pyNext (.ref It)) Q E (cx.mk' h t):=by
 have tkk:=fun{h'}=>a.tk (h':=h')
 cases k with
 |list b=>
  refine u1e a fun i l at_ d=>?_
  refine u0a (I.objs b _ st) fun _ zz10=>?_
  refine u1m zz10 fun ys n g rv=>?_
  cases rest with
  |nil=>
   have:=drop_nil d
   refine wpAny_pyNext_list_end (s:=cx.mk' h t) hh at_ (u2r g) ?_ fun h' hx=>kend rfl h' t hx
   have:=rv.length
   simp;lia
  |cons x rest'=>
   refine u0a (u6w d) fun d1 d2=>?_
   refine u0d (rv.get d1) fun v e r=>?_
   refine wpAny_pyNext_list_item (s:=cx.mk' h t) at_ (u2r g) (x:=v) (by simpa using e) fun h' hx sb=>kitem x rest' v h' t rfl (r.tk (tkk sb.extBut)) ⟨i+1,?_,hx,d2⟩ sb.extBut
   have:=(List.getElem?_eq_some_iff.mp d1).1
   lia
 |tup b=>
  refine v2p a fun i ys n l at_ g zz11 d=>?_
  refine u0a zz11 fun nb rv=>?_
  cases rest with
  |nil=>
   have:=drop_nil d
   refine wpAny_pyNext_tuple_end (s:=cx.mk' h t) hh at_ (v0d g) ?_ fun h' hx=>kend rfl h' t hx
   have:=rv.length
   simp;lia
  |cons x rest'=>
   refine u0a (u6w d) fun d1 d2=>?_
   refine u0d (rv.get d1) fun v e r=>?_
   refine wpAny_pyNext_tuple_item (s:=cx.mk' h t) at_ (v0d g) (x:=v) (by simpa using e) fun h' hx sb=>?_
   have bne:b≠It:=fun z=>by
    refine u1e at_ fun o e' c _=>?_
    have g':h.get? It=some (u0z ys n):=z▸g
    have e'':h.get? It=some o:=e'
    rw [g']at e'';cases e'';exact u9l (by decide) c
   have tk:TK cx.sy h h':=tkk sb.extBut
   refine kitem x rest' v h' t rfl (r.tk tk) ⟨i+1,ys,n,?_,hx,sb.extBut b _ bne g,⟨nb,rv.tk tk⟩,d2⟩ sb.extBut
   have:=(List.getElem?_eq_some_iff.mp d1).1
   lia
 |range n=>
  refine u4i a fun i l e ex d=>?_
  subst ex
  cases rest with
  |nil=>
   have:=drop_nil d
   refine wpAny_pyNext_range_end (s:=cx.mk' h t) hh e ?_ fun h' hx=>kend rfl h' t hx
   simp at this;lia
  |cons x rest'=>
   refine u0a (u6w d) fun d1 d2=>?_
   have hi:=(List.getElem?_eq_some_iff.mp d1).1
   simp only [List.length_map,List.length_range]at hi
   have hx:x=.int (i:Int):=by
    rw [List.getElem?_map,List.getElem?_range hi]at d1
    simpa using d1.symm
   subst hx
   refine wpAny_pyNext_range_item (s:=cx.mk' h t) e (by lia) fun h' hx sb=>kitem _ rest' _ h' _ rfl (.mk_int _ _) ⟨i+1,by lia,?_,rfl,d2⟩ sb.extBut
   have e1:((i+1:Nat):Int)=(i:Int)+1:=by lia
   have e2:(n:Int)-((i+1:Nat):Int)=(n:Int)- i- 1:=by lia
   rw [e2,e1];exact hx
 |zip a' b' TI TO i1 i2=>
  refine u1c st fun us vs s1 s2 zz12=>?_
  subst zz12
  refine u0a (I.objs a' _ s1) fun _ zz13=>?_
  refine u1m zz13 fun ys1 n1 g1 rv1=>?_
  refine u0a (I.objs b' _ s2) fun _ zz14=>?_
  refine u1m zz14 fun ys2 n2 g2 rv2=>?_
  obtain⟨i,D,hz,hTI,u,v,hTO,l1,l2,nTI,bTO,d⟩:=a
  have lz:(List.zipWith (fun x y=>MV.tup [x,y]) us vs).length=min us.length vs.length:=List.length_zipWith
  cases rest with
  |nil=>
   have le:=drop_nil d
   rw [lz]at le
   refine wpAny_pyNext_zip_end (s:=cx.mk' h t) hh D hz hTI hTO l1 l2 (u2r g1) (u2r g2) ?_ fun h' hx=>kend rfl h' t fun c o n e=>hx c o (fun z=>n (.inl z)) (fun z=>n (.inr (.inl z))) (fun z=>n (.inr (.inr (.inl z)))) (fun z=>n (.inr (.inr (.inr z)))) e
   refine Or.elim (Nat.le_total us.length vs.length) (fun q=>?_) (fun q=>?_)
   ·rw [Nat.min_eq_left q]at le;exact .inl (Array.getElem?_eq_none (by rw [List.size_toArray,rv1.length];exact le))
   ·rw [Nat.min_eq_right q]at le;exact .inr (Array.getElem?_eq_none (by rw [List.size_toArray,rv2.length];exact le))
  |cons x rest'=>
   refine u0a (u6w d) fun d1 d2=>?_
   refine u1c (List.getElem?_zipWith_eq_some.mp d1) fun m1 m2 e1 e2 zz15=>?_
   subst zz15
   refine u0d (rv1.get e1) fun w1 f1 r1=>?_
   refine u0d (rv2.get e2) fun w2 f2 r2=>?_
   refine wpAny_pyNext_zip_item (s:=cx.mk' h t) D hz hTI hTO l1 l2 (u2r g1) (u2r g2) (x:=w1) (y:=w2) (by rw [List.getElem?_toArray];exact f1) (by rw [List.getElem?_toArray];exact f2) fun h' a1 a2 a3 a4 a5 a6 a7=>?_
   have hk:∀c o,¬ItX (.zip a' b' TI TO i1 i2) It c→h.get? c=some o→h'.get? c=some o:=fun c o n e=>a7 c o (fun z=>n (.inl z)) (fun z=>n (.inr (.inl z))) (fun z=>n (.inr (.inr (.inl z)))) (fun z=>n (.inr (.inr (.inr z)))) e
   have tk:=tkk hk
   refine kitem _ rest' _ h' t rfl (.mk_tup (ys:=[w1,w2]) (n:=0) (I.free (get?_size h)) a5 (.cons (r1.tk tk) (.cons (r2.tk tk) .nil))) ⟨_,rfl,i+1,D,a1,tk _ [_,_] _ nTI hTI,w1,w2,a2,a3,a4,nTI,bTO,d2⟩ hk
theorem w0f (a:ItAt cx.sy k It xs rest h) {Q:Value→Shared→Prop} {E:Value→Shared→Prop} (q:Q (.ref It) (cx.mk' h t)):wpAny (model cx.prog cx.w) A (pyIter (.ref It)) Q E (cx.mk' h t):=by
 cases k with
 |list b=>refine u1e a fun i l at_ d=>?_;exact wpAny_pyIter_listiter (s:=cx.mk' h t) at_ q
 |tup b=>refine v2p a fun i ys n l at_ g rv d=>?_;exact wpAny_pyIter_tupleiter (s:=cx.mk' h t) at_ q
 |range n=>refine u4i a fun i l e ex d=>?_;exact wpAny_pyIter_rangeiter (s:=cx.mk' h t) e q
 |zip=>obtain⟨i,D,hz,hTI,u,v,hTO,l1,l2,nTI,bTO,d⟩:=a;exact wpAny_pyIter_zip (s:=cx.mk' h t) hz q
theorem v3v:∀n:String,(n="list_iterator" ∨n="tuple_iterator" ∨n="range_iterator")→(["enumerate","zip","dict_itemiterator","dict_reverseitemiterator","odict_iterator","itertools.zip_longest","itertools.pairwise"].contains n)=false:=by
 rintro n (rfl|rfl|rfl)<;>decide
theorem v8r {target:Expr} {v:Value} (a:u9v cx.sy k v It xs rest h) (ht:k.plain=true∨∃es x p,target=.Tuple es x p) {Q:Unit→Shared→Prop} {E:Value→Shared→Prop}
  (q:∀h',ItAt cx.sy k It xs rest h'→(∀b o,b≠It→h.get? b=some o→h'.get? b=some o)→Q () (cx.mk' h' t)):wpAny (model cx.prog cx.w) A (letOwnedTupleGo target (.ref It) v) Q E (cx.mk' h t):=by
 have plain:∀(a:ItAt cx.sy k It xs rest h) (o:Obj) (n:String) (vs:Array Value),h.get? It=some o→o.cls=.type n→o.data=.fields vs→(n="list_iterator" ∨n="tuple_iterator" ∨n="range_iterator")→wpAny (model cx.prog cx.w) A (letOwnedTupleGo target (.ref It) v) Q E (cx.mk' h t):=fun a o n vs ho hc hd hn=>by
  have q:=q h a fun _ _ _ e=>e
  have go:∀v:Value,wpAny (model cx.prog cx.w) A (do
    let (.ref r,.ref a):=((Value.ref It,v):Value×Value)|(pure ():Sem Unit)
    let o←load r
    match o.cls,o.data with
    |.type n,.fields vs=>
     if["enumerate","zip","dict_itemiterator","dict_reverseitemiterator","odict_iterator","itertools.zip_longest","itertools.pairwise"].contains n && vs[0]?==some (rawInt a)then
      rule "for.unpacks-the-owned-tuple"
      updateField r 0 .none
    |_,_=>pure ()) Q E (cx.mk' h t):=fun v=>by
   cases v with
   |ref a=>
    refine wpAny_bind (wpAny_load (s:=cx.mk' h t) ho ?_)
    rw [hc,hd]
    simp only [v3v n hn,Bool.false_and,Bool.false_eq_true,if_false]
    exact wpAny_pure q
   |_=>exact wpAny_pure q
  cases target with
  |Tuple es x p=>exact go v
  |List es p=>exact go v
  |_=>exact wpAny_pure q
 cases k with
 |zip=>
  refine u0d a fun w zz16 zz17=>?_
  subst zz16
  obtain⟨i,D,hz,hTI,x,y,hTO,l1,l2,nTI,bTO,d⟩:=zz17
  refine Or.elim ht (fun z=>?_) (fun zz501=>?_)
  ·exact(Bool.false_ne_true z).elim
  ·obtain⟨es,x1,p,rfl⟩:=zz501
   exact wpAny_letOwnedTupleGo_zip (s:=cx.mk' h t) hz fun h' hz' hs=>q h' ⟨i,D,hz',hs.extBut _ _ D.TIz hTI,x,y,hs.extBut _ _ D.TOz hTO,l1.extBut hs.extBut D.i1z,l2.extBut hs.extBut D.i2z,nTI,bTO,d⟩ hs.extBut
 |list b=>have a':=a;refine u1e a' fun i l zz18 d=>?_;refine u1e zz18 fun o e c d'=>?_;exact plain a o _ _ e c d' (.inl rfl)
 |tup b=>have a':=a;refine v2p a' fun i ys n l zz19 g rv d=>?_;refine u1e zz19 fun o e c d'=>?_;exact plain a o _ _ e c d' (.inr (.inl rfl))
 |range n=>have a':=a;refine u4i a' fun i l e ex d=>?_;exact plain a _ _ _ e rfl rfl (.inr (.inr rfl))
end
end Mine
end
section
open PySem PySem.W PyProof.Rows PySem.Builtin.ObjectAttr
set_option maxRecDepth 20000
namespace Mine
theorem x3m (env:Env) {names:Nm}:∀{cs0:List (Str×Addr)},(∀x ∈ names,x.2=.free→∃c,env.cells.lookup x.1=some c)→
  ∃cl,(forIn names cs0 fun(x:Str×NameKind) (cs:List (Str×Addr))=>(do if x.2==.free then let a←cellOf env x.1;pure (ForInStep.yield ((x.1,a)::cs))else pure (ForInStep.yield cs):Sem (ForInStep (List (Str×Addr)))))=pure cl∧
   (∀p ∈ cl,p ∈ cs0∨env.cells.lookup p.1=some p.2)∧(∀p ∈ cs0,p ∈ cl)∧∀n,(n,NameKind.free)∈ names→∃c,(n,c)∈ cl:=by
 induction names with
 |nil=>intro cs0 _;exact⟨cs0,rfl,fun p h=>.inl h,fun p h=>h,fun n h=>by cases h⟩
 |cons p rest ih=>
  intro cs0 hf
  have hr:∀x ∈ rest,x.2=.free→∃c,env.cells.lookup x.1=some c:=fun x hx=>hf x (.tail _ hx)
  by_cases hk:p.2=.free
  ·refine u0i (hf p (.head _) hk) fun c hc=>?_
   refine u4i (ih (cs0:=(p.1,c)::cs0) hr) fun cl e h1 h2 h3=>⟨cl,?_,fun q hq=>Or.elim (h1 q hq) (fun z=>Or.elim (List.mem_cons.mp z) (fun z=>.inr (z▸hc)) .inl) .inr,fun q hq=>h2 q (.tail _ hq),fun m hm=>Or.elim (List.mem_cons.mp hm) (fun z=>⟨c,(show m=p.1 from congrArg Prod.fst z)▸h2 _ (.head _)⟩) (h3 m)⟩
   have z:cellOf env p.1=pure c:=by unfold cellOf;rw [hc]
   rw [List.forIn_cons,←e,hk,z]
   rfl
  ·refine u4i (ih (cs0:=cs0) hr) fun cl e h1 h2 h3=>⟨cl,?_,h1,h2,fun m hm=>Or.elim (List.mem_cons.mp hm) (fun z=>absurd (congrArg Prod.snd z).symm hk) (h3 m)⟩
   rw [List.forIn_cons,←e,beq_eq_false_iff_ne.mpr hk]
   rfl
theorem x3l (env:Env) (scope:Scope) (hf:∀x ∈ scope.names,x.2=.free→∃c,env.cells.lookup x.1=some c):
  ∃cl,closureFor scope env=pure cl∧(∀p ∈ cl,env.cells.lookup p.1=some p.2)∧∀n,(n,NameKind.free)∈ scope.names→∃c,(n,c)∈ cl:=by
 refine u4i (x3m env (cs0:=[]) hf) fun cl e h1 _ h3=>?_
 refine⟨cl,?_,fun p hp=>(h1 p hp).resolve_left (by simp),h3⟩
 unfold closureFor
 rw [←bind_pure (pure cl:Sem (List (Str×Addr))),←e]
noncomputable def w9x (K:Frag) (sy:List Str) (nm:Nm) (sc:Sc) (k:SrcK) (e1 e2:ME) (iter:Expr):Prop:=match k with
 |.exp=>e2=.none∧chkE K sy nm sc e1 iter=true
 |.range=>e2=.none∧∃x p y pos,iter=.Call (.Name x p) [y] [] pos∧nm.lookup x=some .globalImplicit∧(x==("__debug__":Str))=false∧u4q K x (.type "range")=true∧chkE K sy nm sc e1 y=true
 |.zip=>∃x p y y' pos,iter=.Call (.Name x p) [y,y'] [] pos∧nm.lookup x=some .globalImplicit∧(x==("__debug__":Str))=false∧u4q K x (.type "zip")=true∧chkE K sy nm sc e1 y=true∧chkE K sy nm sc e2 y'=true
section
variable {T:Tab} {cx:Cx T} {CS:u1n} {A:Around} {fs:List Env} {r:Nat} {env:Env} {nm:Nm} {sc:Sc} {loc:Loc} {own own1:Addr→Option Addr} {σ σ1:Hp} {h h0 h1 h2 h':Heap} {t:Nat} {X Y:Addr→Prop}
structure Ready (cx:Cx T) (fs:List Env) (own0:Addr→Option Addr) (h0:Heap) (kk:ItK) (It:Addr) (xs:List MV) (own:Addr→Option Addr) (σ:Hp) (h:Heap):Prop where
 inv:Inv cx fs own σ h
 ext:OwnExt own0 own h0
 keep:Keep fs own0 noX h0 h
 new:∀b,ItX kk It b→h0.get? b=none
 ownI:∀b,ItX kk It b→own b=none
 baseI:∀b,ItX kk It b→cx.base.get? b=none
 fr:∀b,ItX kk It b→¬u0o fs b
 at_:ItAt cx.sy kk It xs xs h
theorem u1z (I:Inv cx fs own σ h) {a:Addr} (e:h.get? a=none):¬u0o fs a:=fun z=>by
 refine u0d z fun ev hm hf=>?_
 refine u2o (I.frames ev hm) fun L o es n f1 f2 f3 f4 f5 f7=>?_
 rw [hf]at f1;cases f1
 rw [e]at f4;cases f4
theorem u8t (I:Inv cx fs own σ h) (H:Inv cx fs own1 σ1 h1) (x:OwnExt own own1 h) (k:Keep fs own noX h h1) {o:Obj} {kk:ItK} {xs:List MV}
  (a:ItAt cx.sy kk h1.objs.size xs xs (h1.push o)) (pl:∀b,ItX kk h1.objs.size b→b=h1.objs.size):Ready cx fs own h kk h1.objs.size xs own1 σ1 (h1.push o):=by
 refine u0a (H.push_any o) fun I' k'=>?_
 have e:=get?_size h1
 refine⟨I',x,k.trans x k',fun b y=>?_,fun b y=>pl b y▸(H.fresh e).2,fun b y=>pl b y▸u1r H,fun b y=>pl b y▸u1z H e,a⟩
 obtain rfl:=pl b y
 cases q:h.get? h1.objs.size with
 |none=>rfl
 |some o'=>
  refine u0i (k.live _ _ q) fun o'' e'=>?_
  rw [e]at e';cases e'
theorem w3j (I:Inv cx fs own σ h) (H:Inv cx fs own1 σ1 h1) (x:OwnExt own own1 h) (k:Keep fs own noX h h1) {a b:Addr} {oa ob:Obj} {xs:List MV} (g1:h1.get? a=some oa) (g2:h1.get? b=some ob)
  (hz:IsZip h' (h1.objs.size+4) (h1.objs.size+2) (h1.objs.size+3) .none) (hTI:IsPair h' (h1.objs.size+2) (.ref h1.objs.size) (.ref (h1.objs.size+1))) (hTO:IsPair h' (h1.objs.size+3) .none .none)
  (l1:h'.IsListIter h1.objs.size a 0) (l2:h'.IsListIter (h1.objs.size+1) b 0) (hk:∀c o,h1.get? c=some o→h'.get? c=some o):
  Ready (cx.wb fun c=>cx.ban c∨c=h1.objs.size+3) fs own h (.zip a b (h1.objs.size+2) (h1.objs.size+3) h1.objs.size (h1.objs.size+1)) (h1.objs.size+4) xs own1 σ1 h':=by
 have none:∀n,h1.get? (h1.objs.size+n)=none:=fun n=>Heap.get?_none_of_le (Nat.le_add_right _ _)
 have fr:∀c,ItX (.zip a b (h1.objs.size+2) (h1.objs.size+3) h1.objs.size (h1.objs.size+1)) (h1.objs.size+4) c→h1.get? c=.none:=fun c z=>by
  rcases z with rfl|rfl|rfl|rfl
  ·exact none 4
  ·exact none 3
  ·exact none 0
  ·exact none 1
 refine⟨H.startB hk (fun c ys n nb e z=>?_) (fun c z=>?_),x,k.buts (Y:=noX) (fun c o _ e=>hk c o e) (fun _ z=>z.elim),fun c z=>?_,fun c z=>(H.fresh (fr c z)).2,fun c z=>?_,fun c z=>u1z H (fr c z),0,zipApart_new (Heap.lt_size g1) (Heap.lt_size g2),hz,hTI,_,_,hTO,l1,l2,fun z=>?_,.inr rfl,rfl⟩
 ·refine Or.elim z (fun z=>?_) (fun zz503=>?_)
  ·exact nb z
  ·subst zz503
   rw [none 3]at e;cases e
 ·refine Or.elim z (fun z=>?_) (fun zz504=>?_)
  ·refine u1j (H.bans c z) fun ys n e=>?_
   exact⟨ys,n,hk _ _ e⟩
  ·subst zz504
   exact⟨[_,_],0,hTO⟩
 ·cases q:h.get? c with
  |none=>rfl
  |some o'=>
   refine u0i (k.live _ _ q) fun o'' e'=>?_
   rw [fr c z]at e';cases e'
 ·cases q:cx.base.get? c with
  |none=>exact q
  |some o=>have:=H.base c o q;rw [fr c z]at this;cases this
 ·rcases z with z|z
  ·exact H.free (none 2) z
  ·exact absurd z (Nat.ne_of_lt (Nat.lt_succ_self _))
set_option tactic.hygienic true in
theorem v3m {e1 e2:ME} (s1:SndE cx CS e1) (s2:SndE cx CS e2) {k:SrcK} {iter:Expr} (ok:w9x cx.K T.sym nm sc k e1 e2 iter) (H:Here cx A fs r env nm sc loc own σ h) {E:MV→Hp→Prop} {F:Hp→List MV→(Hp→Prop)→Prop}
  (q:ewp T CS r e1 loc σ (fun v1 σ1=>ewp T CS r e2 loc σ1 (fun v2 σ2=>srcP k v1 v2 σ2 (F σ2)) E) E) {R:Value→Shared→Prop}
  (hR:∀bn It kk xs st own' σ' h' t',(∀a,cx.ban a→bn a)→(∀a,bn a→cx.ban a∨ItX kk It a)→(kk.plain=true∨isZ k=true)→Ready (cx.wb bn) fs own h kk It xs own' σ' h'→(∀σ,st σ→ItSt kk xs σ)→F σ' xs st→R (.ref It) (cx.mk' h' t')):
  wpAny (model cx.prog cx.w) A (eval iter env) (fun v s=>wpAny (model cx.prog cx.w) A (pyIter v) R (Pst cx fs noX own h (EQ E)) s) (Pst cx fs noX own h (EQ E)) (cx.mk' h t):=by
 cases k with
 |exp=>
  refine u0a ok fun zz1 c=>?_
  subst zz1
  refine u0e (s1 nm sc iter c A fs r env loc own σ h t _ E H q) (fun _ _ e=>e) fun v own1 σ1 h1 t1 I x k p=>?_
  obtain⟨m,rv,p⟩:=p
  rw [w5q]at p
  cases m with
  |tup xs=>
   refine u1b rv.tup_inv fun a ys n zz2 g rs=>?_
   subst zz2
   refine wpAny_pyIter_tuple (s:=cx.mk' h1 t1) (v0d g) (hR cx.ban _ (.tup a) xs _ _ _ _ _ (fun _ z=>z) (fun _ z=>.inl z) (.inl rfl) (u8t H.inv I x k ⟨0,ys,n,Nat.zero_le _,⟨_,Heap.get?_push_size h1 rfl,rfl,rfl⟩,Heap.get?_push_of_some _ g,⟨rv.tup_ban,rs.tk ?_⟩,rfl⟩ fun _ y=>y) (fun _ _=>trivial) p)
   exact fun c us m _ e=>Heap.get?_push_of_some _ e
  |ref a=>
   refine u0d p fun xs hs p=>?_
   obtain rfl:=rv.ref_inv
   refine u0a (I.objs a _ hs) fun _ zz3=>?_
   refine u1m zz3 fun ys n g rs=>?_
   exact wpAny_pyIter_list (s:=cx.mk' h1 t1) (u2r g) (hR cx.ban _ (.list a) xs _ _ _ _ _ (fun _ z=>z) (fun _ z=>.inl z) (.inl rfl) (u8t H.inv I x k ⟨0,Nat.zero_le _,⟨_,Heap.get?_push_size h1 rfl,rfl,rfl⟩,rfl⟩ fun _ y=>y) (fun _ z=>z) p)
  |_=>exact False.elim p
 |range=>
  refine u0a ok fun zz4 zz5=>?_
  subst zz4
  refine x8d zz5 fun y py e pos zz501 c1 c2 c3 c4=>?_
  subst zz501
  refine wpAny_Call_NameR (u6p H.inv H.stat (by rw [H.stat.kindOf];exact c1) c2 c3 ?_)
  have e1:backTo pos (starEach [e] env)=[(false,eval e env)]:=by
   have:=u1y (cx:=cx) (ms:=[e1]) (es:=[e]) (nm:=nm) (sc:=sc) (Bool.and_eq_true_iff.mpr ⟨c4,rfl⟩) env pos
   exact this
  rw [e1]
  refine PySem.callWith_type rfl (Calls.evalArgs_plain (Calls.spliced_cons ?_))
  refine u0e (s1 nm sc e c4 A fs r env loc own σ h t _ E H q) (fun _ _ e=>e) fun v own1 σ1 h1 t1 I x k p=>Calls.spliced_nil ?_
  obtain⟨m,rv,p⟩:=p
  rw [w5q]at p
  cases m with
  |int n=>
   refine u0i rv.int_inv fun tk zz6=>?_
   subst zz6
   refine al3 p fun hlo hhi p=>?_
   refine call_range_1 ?_
   refine wpAny_pyIter_range (IsRange.new ..) (small_one (by decide) (by decide) hlo hhi) ?_
   have hsz:Builtin.Range.rangeSize 0 n 1=(n.toNat:Int):=by rw [rangeSize_one];split<;>lia
   refine u0a (I.push_any {cls:=.type "range",data:=.fields #[.int 0 t1,.int n tk,.int 1 (t1+1)]}) fun I' k'=>?_
   refine hR cx.ban _ (.range n.toNat) _ _ own1 σ1 _ _ (fun _ z=>z) (fun _ z=>.inl z) (.inl rfl) (u8t H.inv I' x (k.trans x k') ⟨0,Nat.zero_le _,?_,rfl,rfl⟩ fun _ y=>y) (fun _ _=>trivial) p
   have e2:(((n.toNat:Nat):Int)-((0:Nat):Int))=Builtin.Range.rangeSize 0 n 1:=by rw [hsz];simp
   rw [e2]
   exact Heap.get?_push_size _ rfl
  |_=>exact False.elim p
 |zip=>
  refine y8q ok fun y py e e' pos zz8 c1 c2 c3 c4 c5=>?_
  subst zz8
  refine wpAny_Call_NameR (u6p H.inv H.stat (by rw [H.stat.kindOf];exact c1) c2 c3 ?_)
  have ee:backTo pos (starEach [e,e'] env)=[(false,eval e env),(false,eval e' env)]:=
   u1y (cx:=cx) (ms:=[e1,e2]) (es:=[e,e']) (nm:=nm) (sc:=sc) (Bool.and_eq_true_iff.mpr ⟨c4,Bool.and_eq_true_iff.mpr ⟨c5,rfl⟩⟩) env pos
  rw [ee]
  refine PySem.callWith_type rfl (Calls.evalArgs_plain (Calls.spliced_cons ?_))
  refine u0e (s1 nm sc e c4 A fs r env loc own σ h t _ E H q) (fun _ _ e=>e) fun v own1 σ1 h1 t1 I x k p=>Calls.spliced_cons ?_
  obtain⟨m,rv,p⟩:=p
  refine u0e (s2 nm sc e' c5 A fs r env loc own1 σ1 h1 t1 _ E (H.go I x k) p) (fun _ _ e=>e.up x k) fun u own2 σ2 h2 t2 I2 x2 k2 p2=>Calls.spliced_nil ?_
  obtain⟨m',ru,a,b,xs,ys,rfl,rfl,sa,sb,p2⟩:=p2
  obtain rfl:=rv.ref_inv
  obtain rfl:=ru.ref_inv
  refine u0a (I2.objs a _ sa) fun _ zz9=>?_
  refine u1m zz9 fun vs1 n1 g1 r1=>?_
  refine u0a (I2.objs b _ sb) fun _ zz10=>?_
  refine u1m zz10 fun vs2 n2 g2 r2=>?_
  refine call_zip_2 (s:=cx.mk' h2 t2) (u2r g1) (u2r g2) fun h' hz hTI hTO l1 l2 hsz hk=>wpAny_pyIter_zip (s:=cx.mk' h' t2) hz ?_
  exact hR _ _ _ _ _ own2 σ2 h' t2 (fun _ z=>.inl z) (fun _ z=>z.imp id fun z=>.inr (.inl z)) (.inr rfl) (w3j H.inv I2 (x.trans k x2) (k.trans x k2) g1 g2 hz hTI hTO l1 l2 hk) (fun _ z=>⟨xs,ys,z.1,z.2,rfl⟩) p2
end
end Mine
end
section
open PySem PySem.W PyProof.Rows PySem.Builtin.ObjectAttr
set_option maxRecDepth 20000
namespace Mine
section
variable {prog:Program} {w:World} {A:Around} {R:Result→Shared→Prop} {s:Shared}
theorem v4y {elt target iter:Expr} {ifs:List Expr} {scope:Scope} {pos:Pos} {it acc:Value} {env:Env} (I:Nat→Shared→Prop)
  (turn:∀n s,I n s→wpAny (model prog w) A (pyNext it) (fun r s₁=>match r with
   |none=>R (.ok .next) s₁
   |some v=>wpAny (model prog w) A (letOwnedTupleGo target it v) (fun _ s₁'=>wpAny (model prog w) A (assign target env v) (fun _ s₂=>
     wpAny (model prog w) A (forIn ifs true fun c r=>if r=true then do let ok←isTrue c env (eval c env);pure (ForInStep.yield ok)else pure (ForInStep.yield r)) (fun ok s₃=>
      if ok=true then wpAny (model prog w) A (eval elt env) (fun x s₄=>
       wpAny (model prog w) A (call (.builtin "list.append") [acc,x]) (fun _ s₅=>∃m,m<n∧I m s₅) (notedBy (model prog w) A env fun e s'=>R (.error e) s') s₄) (notedBy (model prog w) A env fun e s'=>R (.error e) s') s₃
      else∃m,m<n∧I m s₃) (notedBy (model prog w) A env fun e s'=>R (.error e) s') s₂) (notedBy (model prog w) A env fun e s'=>R (.error e) s') s₁') (notedBy (model prog w) A env fun e s'=>R (.error e) s') s₁) (notedBy (model prog w) A env fun e s'=>R (.error e) s') s)
  (n:Nat) (h:I n s):
  codeAny (model prog w) A (.compLoop (.ListComp elt [⟨target,iter,ifs,0⟩] scope pos) 0 it acc env) R s:=by
 refine codeAny_loop rfl I (fun n s hI=>?_) n h
 show wpAny _ A ((compTurn (.ListComp elt [⟨target,iter,ifs,0⟩] scope pos) 0 it acc env).onRaise (fun x=>do noteFrame x env;theTreesLotGoes x)) _ _ s
 refine wpAny_noted ?_
 rw [compTurn_list]
 refine wpAny_bind (wpAny_standAt (wpAny_bind (wpAny_mono (turn n s hI) (fun r s₁ h₁=>?_) fun _ _ h'=>h')))
 cases r with
 |none=>exact wpAny_pure h₁
 |some v=>
  refine wpAny_bind (wpAny_mono h₁ (fun _ s₁' h₁'=>?_) fun _ _ h'=>h')
  refine wpAny_bind (wpAny_mono h₁' (fun _ s₂ h₂=>wpAny_bind (wpAny_mono h₂ (fun ok s₃ h₃=>?_) fun _ _ h'=>h')) fun _ _ h'=>h')
  cases ok with
  |false=>exact wpAny_pure ⟨rfl,h₃⟩
  |true=>
   exact wpAny_bind (wpAny_bind (wpAny_mono h₃ (fun x s₄ h₄=>wpAny_bind (wpAny_mono h₄ (fun _ s₅ h₅=>wpAny_pure (wpAny_pure ⟨rfl,h₅⟩)) fun _ _ h'=>h')) fun _ _ h'=>h'))
end
theorem u2w (names nm:Nm) (x:Str):(u3z names nm).lookup x=(names.lookup x).map fun k=>if(k==.free && nm.lookup x==some .cell)then .cell else k:=by
 unfold u3z
 induction names with
 |nil=>rfl
 |cons p r ih=>
  obtain⟨n,k⟩:=p
  rw [List.map_cons,List.lookup_cons]
  by_cases q:x=n
  ·subst q
   by_cases c:(k==NameKind.free && nm.lookup x==some .cell)=true
   ·rw [if_pos c];simp only [List.lookup_cons,beq_self_eq_true,Option.map_some,if_pos c]
   ·rw [if_neg c];simp only [List.lookup_cons,beq_self_eq_true,Option.map_some,if_neg c]
  ·have e:(x==n)=false:=by simpa using q
   by_cases c:(k==NameKind.free && nm.lookup n==some .cell)=true
   ·rw [if_pos c];simp only [List.lookup_cons,e];exact ih
   ·rw [if_neg c];simp only [List.lookup_cons,e];exact ih
theorem u0x {α β:Type} [BEq α] [LawfulBEq α] {l:List (α×β)} {x:α} {y:β} (e:l.lookup x=some y):(x,y)∈ l:=by
 induction l with
 |nil=>cases e
 |cons p r ih=>
  obtain⟨a,b⟩:=p
  rw [List.lookup_cons]at e
  by_cases q:x=a
  ·subst q;simp at e;subst e;simp
  ·have e':(x==a)=false:=by simpa using q
   rw [e']at e
   exact List.mem_cons_of_mem _ (ih e)
theorem u5d {α β:Type} [BEq α] [LawfulBEq α] {l:List (α×β)} {x:α} {y:β} (e:(x,y)∈ l):∃z,l.lookup x=some z:=by
 induction l with
 |nil=>cases e
 |cons p r ih=>
  obtain⟨a,b⟩:=p
  rw [List.lookup_cons]
  by_cases q:x=a
  ·subst q;simp
  ·have e':(x==a)=false:=by simpa using q
   rw [e']
   refine Or.elim (List.mem_cons.mp e) (fun z=>?_) (fun z=>?_)
   ·cases z;exact absurd rfl q
   ·exact ih z
theorem w3v {r:List (Str×Nat)} (nd:(r.map (·.2)).Nodup) {x y:Str} {i:Nat} (z:(x,i)∈ r) (z':(y,i)∈ r):x=y:=by
 induction r with
 |nil=>cases z
 |cons p r ih=>
  rw [List.map_cons,List.nodup_cons]at nd
  have f:∀{w:Str},(w,i)∈ r→p.2≠i:=fun q e=>nd.1 (e▸List.mem_map.mpr ⟨_,q,rfl⟩)
  exact(List.mem_cons.mp z).elim (fun q=>(List.mem_cons.mp z').elim (fun q'=>congrArg Prod.fst (q.trans q'.symm)) fun q'=>absurd (congrArg Prod.snd q).symm (f q')) fun q=>(List.mem_cons.mp z').elim (fun q'=>absurd (congrArg Prod.snd q').symm (f q)) fun q'=>ih nd.2 q q'
theorem w2t {l:List (Str×Nat)} (nd:(l.map (·.2)).Nodup) {x y:Str} {i:Nat} (e:l.lookup x=some i) (e':l.lookup y=some i):x=y:=by
 have m1:=u0x e
 have m2:=u0x e'
 induction l with
 |nil=>cases m1
 |cons p r ih=>
  rw [List.map_cons,List.nodup_cons]at nd
  rcases List.mem_cons.mp m1 with z|z<;>rcases List.mem_cons.mp m2 with z'|z'
  ·rw [←z']at z;cases z;rfl
  ·subst z;exact absurd (List.mem_map.mpr ⟨_,z',rfl⟩) nd.1
  ·subst z';exact absurd (List.mem_map.mpr ⟨_,z,rfl⟩) nd.1
  ·refine u0i (u5d z) fun u hu=>?_
   refine u0i (u5d z') fun u' hu'=>?_
   clear ih
   exact w3v nd.2 z z'
noncomputable def clear (loc:Loc) (ti:List Nat):Loc:=ti.foldl (fun l i=>l.set i none) loc
theorem u4v (ti:List Nat) (loc:Loc):(clear loc ti).length=loc.length:=by
 induction ti generalizing loc with
 |nil=>rfl
 |cons i is ih=>exact(ih (loc.set i none)).trans List.length_set
theorem u9m (ti:List Nat) (loc:Loc) (j:Nat) (h:j ∉ ti):(clear loc ti)[j]?=loc[j]?:=by
 induction ti generalizing loc with
 |nil=>rfl
 |cons i is ih=>exact(ih (loc.set i none) fun z=>h (.tail _ z)).trans (List.getElem?_set_ne fun z=>h (List.mem_cons.mpr (.inl z.symm)))
theorem u8k (ti:List Nat) (loc:Loc) (j:Nat) (mv:MV) (e:(clear loc ti)[j]?=some (some mv)):loc[j]?=some (some mv)∧j ∉ ti:=by
 induction ti generalizing loc with
 |nil=>exact⟨e,List.not_mem_nil⟩
 |cons i is ih=>exact u0a (ih (loc.set i none) e) fun a b=>(u4d a).elim (fun y=>nomatch y.2) fun y=>⟨y.2,fun q=>(List.mem_cons.mp q).elim (fun q=>y.1 q.symm) b⟩
theorem v1u (ti:List Nat) (xs:List MV) (loc:Loc) (j:Nat) (h:j ∉ ti):(u5y loc ti xs)[j]?=loc[j]?:=by
 induction ti generalizing xs loc with
 |nil=>rfl
 |cons i is ih=>cases xs with
  |nil=>rfl
  |cons x xs=>exact(ih xs (loc.set i (some x)) fun z=>h (.tail _ z)).trans (List.getElem?_set_ne fun z=>h (List.mem_cons.mpr (.inl z.symm)))
theorem v1b (ti:List Nat) (xs:List MV) (loc loc2:Loc) (e:xs.length=ti.length) (hl:loc.length=loc2.length) (h:∀j,j ∉ ti→loc[j]?=loc2[j]?):u5y loc ti xs=u5y loc2 ti xs:=by
 induction ti generalizing xs loc loc2 with
 |nil=>cases xs with
  |nil=>exact List.ext_getElem? fun j=>h j List.not_mem_nil
  |cons _ _=>cases e
 |cons i is ih=>cases xs with
  |nil=>cases e
  |cons x xs=>
   refine ih xs (loc.set i (some x)) (loc2.set i (some x)) (Nat.succ.inj e) (List.length_set.trans (hl.trans List.length_set.symm)) fun j hj=>?_
   by_cases q:i=j
   ·rw [q,List.getElem?_set,List.getElem?_set,if_pos rfl,if_pos rfl,hl]
   ·rw [List.getElem?_set_ne q,List.getElem?_set_ne q];exact h j fun z=>(List.mem_cons.mp z).elim (fun z=>q z.symm) hj
set_option tactic.hygienic true in
theorem v7i {ti:List Nat} {one:Bool} {x:MV} {loc:Loc} {K:Loc→Prop} (q:u9q ti one x loc K):
  u9q ti one x (clear loc ti) fun loc'=>K loc'∧∀(j:Nat) (mv:MV),(clear loc ti)[j]?=some (some mv)→loc'[j]?=some (some mv):=by
 refine u0a q fun q0 q=>?_
 refine⟨fun i hi=>by rw [u4v];exact q0 i hi,?_⟩
 cases one with
 |true=>
  cases ti with
  |nil=>exact False.elim q
  |cons i rr=>
   cases rr with
   |cons _ _=>exact False.elim q
   |nil=>
   have e:(clear loc [i]).set i (some x)=loc.set i (some x):=v1b [i] [x] (clear loc [i]) loc rfl (u4v _ _) fun j hj=>u9m _ _ _ hj
   refine⟨by rw [e];exact q,fun j mv hj=>?_⟩
   refine u0a (u8k _ _ _ _ hj) fun _ b=>?_
   rw [List.getElem?_set,if_neg fun z=>b (by simp [z])];exact hj
 |false=>
  cases x with
  |tup xs=>
   refine u0a q fun hl q=>?_
   have e:=v1b ti xs (clear loc ti) loc hl (u4v _ _) fun j hj=>u9m _ _ _ hj
   refine⟨hl,by rw [e];exact q,fun j mv hj=>?_⟩
   refine u0a (u8k _ _ _ _ hj) fun _ b=>?_
   rw [v1u _ _ _ _ b];exact hj
  |_=>exact False.elim q
section
variable {T:Tab} {cx:Cx T} {CS:u1n} {A:Around} {fs:List Env} {r:Nat} {env:Env} {nm:Nm} {sc:Sc} {loc loc2:Loc} {own own1:Addr→Option Addr} {σ σ1:Hp} {h h0 h1 h2 h':Heap} {t:Nat} {X Y:Addr→Prop}
theorem ERel.weaken (R:ERel cx env sc loc own h) (hw:∀(i:Nat) (mv:MV),loc2[i]?=some (some mv)→loc[i]?=some (some mv)):ERel cx env sc loc2 own h:=by
 obtain⟨⟨m,ns,l⟩,oL,bL,cells,inj,scInj⟩:=R
 refine⟨⟨m,ns,fun x i mv h1 h2 h3=>l x i mv h1 (hw i mv h2) h3⟩,oL,bL,fun x i h1 h2=>?_,inj,scInj⟩
 refine u7m (cells x i h1 h2) fun c o vo c1 c2 c3 c4 c5 c6 c8=>?_
 exact⟨c,o,vo,c1,c2,c3,c4,c5,c6,fun mv hm=>c8 mv (hw i mv hm)⟩
theorem v5f {D:Addr} {ys:List Value} {n:Nat} {x:Value} {Q:Value→Shared→Prop} {E:Value→Shared→Prop} (g:h.get? D=some (listOf ys.toArray n)) (hs:ys.length≤u0t)
  (k:∀h' n',h'.get? D=some (listOf (ys++[x]).toArray n')→(∀b o,b≠D→h.get? b=some o→h'.get? b=some o)→Q .none (cx.mk' h' t)):
  wpAny (model cx.prog cx.w) A (call (.builtin "list.append") [.ref D,x]) Q E (cx.mk' h t):=by
 refine call_meets (s:=cx.mk' h t) F.slot_list_append ⟨_,g,rfl⟩ F.entry_list_append (F.args_list_append_2 _ _) (list_append D ys.toArray n x (by simp;exact hs)) ⟨g,?_⟩
 have g':=Heap.get?_update_self (Obj.mapSeq fun xs=>xs.push x) g rfl
 have e:ys.toArray.push x=(ys++[x]).toArray:=by simp
 refine k _ (if(ys.toArray.push x).size==ys.toArray.size then n else n+1) ?_ fun b o nb e=>(Heap.get?_update_other _ _ (Ne.symm nb)).trans e
 rw [←e];exact g'
theorem Inv.sNone (I:Inv cx fs own σ h) {a:Addr} (n:own a=none) (b:cx.base.get? a=none):σ a=none:=by
 cases q:σ a with
 |none=>rfl
 |some o=>
  refine u0a (I.objs' a o q) fun x y=>?_
  rw [n]at x
  have x:=x.resolve_left (by intro z;cases z)
  cases o with
  |frz ns=>
   refine u0d y fun vs zz1 _=>?_
   refine u0d zz1 fun o g _=>?_
   rw [g]at b;cases b
  |_=>exact(Bool.false_ne_true x).elim
theorem Inv.adopt (I:Inv cx fs own σ h) {a:Addr} {mo:MObj} {o:Obj} (n:own a=none) (hb:cx.base.get? a=none) (hf:¬u0o fs a) (e:h.get? a=some o) (c:o.cls≠ .type "tuple") (ho:ORel cx (u1k own a) h a mo):
  Inv cx fs (u1k own a) (σ.put a mo) h:=by
 refine⟨I.base,fun b x q=>?_,fun b x q=>?_,fun b mo' q=>?_,fun ev hm=>?_,I.bans⟩
 ·unfold u1k at q
  by_cases z:b=a
  ·subst z;exact⟨hb,o,e,c⟩
  ·rw [if_neg z]at q;exact I.ownd b x q
 ·unfold u1k at q ⊢
  by_cases z:b=a
  ·rw [if_pos z]at q;cases q;rw [if_pos rfl]
  ·rw [if_neg z]at q
   have:=I.ownr b x q
   by_cases z':x=a
   ·subst z';rw [n]at this;cases this
   ·rw [if_neg z'];exact this
 ·unfold Hp.put at q
  by_cases z:b=a
  ·subst z
   rw [if_pos rfl]at q;cases q
   exact⟨.inl (by unfold u1k;rw [if_pos rfl]),ho⟩
  ·rw [if_neg z]at q
   refine I.objK q (TK.refl h) (fun c x q=>?_) (fun c e=>?_) (fun _ _ _ e=>e)
   ·unfold u1k
    by_cases z:c=a
    ·subst z;rw [n]at q;cases q
    ·rw [if_neg z];exact q
   ·unfold u1k at e
    by_cases z':c=a
    ·rw [if_pos z']at e;exact absurd (Option.some.inj e).symm z
    ·rw [if_neg z']at e;exact e
 ·refine u2o (I.frames ev hm) fun L o' es m f1 f2 f3 f4 f5 f7=>?_
  refine⟨L,o',es,m,f1,f2,?_,f4,f5,f7⟩
  unfold u1k
  rw [if_neg (show L≠a from fun z=>hf ⟨ev,hm,z▸f1⟩)];exact f3
theorem Keep.odd {a:Addr} {o:Obj} (k:Keep fs own noX h h') (e:h.get? a=some o) (n:own a=none) (hf:¬u0o fs a):h'.get? a=some o:=by
 refine Or.elim (k.same a o e n (fun z=>z)) (fun z=>?_) (fun zz503=>?_)
 ·exact z
 ·obtain⟨z,_⟩:=zz503
  exact absurd z hf
theorem u5p {iter:Expr} (e:v6o iter=false) (env:Env) (x:Value):foldedSetIterable iter env x=pure x:=by
 cases iter<;>first|rfl|cases e
end
end Mine
end
section
open PySem PySem.W PyProof.Rows PySem.Builtin.ObjectAttr
set_option maxRecDepth 20000
namespace Mine
section
variable {T:Tab} {cx:Cx T} {CS:u1n} {A:Around} {fs:List Env} {r:Nat} {env:Env} {nm:Nm} {sc:Sc} {loc loc2:Loc} {own own1:Addr→Option Addr} {σ σ1:Hp} {h h0 h1 h2 h':Heap} {t:Nat} {X Y:Addr→Prop}
theorem u8n (S:EStat env nm) {scope:Scope} (hk:scope.kind=.function) {cl:List (Str×Addr)} {C:Addr}:EStat (compEnvC scope cl C env) (u3z scope.names nm):=by
 refine⟨?_,hk,S.globals,S.builtins⟩
 show(relabel scope env).names=_
 unfold relabel u3z
 have e:(env.scope.kind==ScopeKind.function)=true:=by rw [S.kind];rfl
 simp only [e,Bool.and_true,S.kindOf]
structure CompChk (cx:Cx T) (nm:Nm) (sc:Sc) (names:Nm) (tn:List Str) (ti:List Nat):Prop where
 len:tn.length=ti.length
 nocell:∀x ∈ names,x.2≠ .cell
 loc:∀x ∈ names,x.2=.local→names.lookup x.1=some .local
 free:∀x ∈ names,x.2=.free→(nm.lookup x.1=some .cell∨nm.lookup x.1=some .free)∧∃i,sc.lookup x.1=some i
 nd:((u2l names tn ti sc).map (·.2)).Nodup
 all:∀x ∈ u2l names tn ti sc,(x.2 ∈ ti∧names.lookup x.1=some .local)∨((x.1,NameKind.free)∈ names∧names.lookup x.1=some .free∧sc.lookup x.1=some x.2)
 tgt:∀x ∈ tn.zip ti,(u2l names tn ti sc).lookup x.1=some x.2∧names.lookup x.1=some .local
theorem w1b {names:Nm} {tn:List Str} {ti:List Nat} (c:v1j names nm tn ti sc=true):CompChk cx nm sc names tn ti:=by
 unfold v1j at c
 simp only [Bool.and_eq_true,List.all_eq_true,Bool.or_eq_true,beq_iff_eq,bne_iff_ne,decide_eq_true_eq,List.contains_iff_mem,List.any_eq_true,Option.isSome_iff_exists]at c
 refine al7 c fun c1 c2 c3 c4 c5 c6 c7=>?_
 refine⟨c1,fun x hx=>(c2 x hx).1,fun x hx e=>((c2 x hx).2).resolve_left (fun z=>z e),fun x hx e=>(c3 x hx).resolve_left (fun z=>z e),c4,fun x hx=>?_,c7⟩
 refine Or.elim (c6 x hx) (fun z=>?_) (fun z=>?_)
 ·exact .inl z
 ·refine u0a z fun zz2 z3=>?_
  refine u0a zz2 fun zz502 z2=>?_
  obtain⟨y,hy,e1,e2⟩:=zz502
  exact .inr ⟨by rw [←e1,←e2];exact hy,z2,z3⟩
theorem x1g {nm':Nm} {sc':Sc} {tn:List Str} {ti:List Nat} (l:tn.length=ti.length) (h:∀x ∈ tn.zip ti,sc'.lookup x.1=some x.2∧(nm'.lookup x.1=some .local∨nm'.lookup x.1=some .cell)):u4z nm' sc' tn ti:=by
 induction tn generalizing ti with
 |nil=>cases ti with
  |nil=>trivial
  |cons _ _=>cases l
 |cons x xs ih=>cases ti with
  |nil=>cases l
  |cons i is=>exact⟨h (x,i) (.head _),ih (Nat.succ.inj l) fun y hy=>h y (.tail _ hy)⟩
theorem v5o {conds:List ME} {ifs:List Expr} (sT:∀c ∈ conds,SndT cx CS c) (ok:u1p cx.K T.sym nm sc conds ifs=true) (H:Here cx A fs r env nm sc loc own σ h) {Q:Bool→Hp→Prop} (q:u4u T CS r conds loc σ Q):
  wpAny (model cx.prog cx.w) A (forIn ifs true fun c r=>if r=true then do let ok←isTrue c env (eval c env);pure (ForInStep.yield ok)else pure (ForInStep.yield r))
   (Pst cx fs noX own h (BQ Q)) (Pst cx fs noX own h (EQ fun _ _=>False)) (cx.mk' h t):=by
 cases conds with
 |nil=>
  cases ifs with
  |nil=>exact wpAny_tests_nil (Pst.here H.inv q)
  |cons _ _=>exact(Bool.false_ne_true ok).elim
 |cons c cs=>
  obtain⟨rfl,q⟩:=q
  cases ifs with
  |nil=>exact(Bool.false_ne_true ok).elim
  |cons e es=>
   replace ok:=Bool.and_eq_true_iff.mp (show(chkE cx.K T.sym nm sc c e && u1p cx.K T.sym nm sc [] es)=true from ok)
   have:=u2a ok.2
   cases es with
   |cons _ _=>cases this
   |nil=>exact wpAny_tests_one (sT c (by simp) nm sc e ok.1 A fs r env loc own σ h t Q _ H q)
structure CLoop (cx:Cx T) (fs:List Env) (own0:Addr→Option Addr) (h0:Heap) (kk:ItK) (It D C:Addr) (xs rest acc:List MV) (cenv:Env) (sc':Sc) (loc:Loc) (own:Addr→Option Addr) (σ:Hp) (h:Heap):Prop where
 inv:Inv cx fs own σ h
 ext:OwnExt own0 own h0
 keep:Keep fs own0 noX h0 h
 ownI:∀b,ItX kk It b→own b=none
 ownD:own D=none
 at_:ItAt cx.sy kk It xs rest h
 acc_:∃ys n,h.get? D=some (listOf ys.toArray n)∧u0j cx.sy h acc ys
 rel:ERel cx cenv sc' loc own h
theorem x1p {D:Addr} {ys:List Value} {n:Nat} (e:h.get? D=some (listOf ys.toArray n)):Odd h D∧∀us m,h.get? D≠some (u0z us m):=
 ⟨fun o e'=>by rw [e]at e';cases e';exact⟨fun _ _ z=>(by cases z),fun _ z=>(by cases z)⟩,fun us m e'=>by rw [e]at e';exact u9l (by decide) (congrArg Obj.cls (Option.some.inj e'))⟩
section
variable {kk:ItK} {It D C:Addr} {xs rest acc:List MV} {cenv:Env} {sc':Sc} {own0:Addr→Option Addr}
theorem CLoop.go (L:CLoop cx fs own0 h0 kk It D C xs rest acc cenv sc' loc own σ h) (fI:∀b,ItX kk It b→¬u0o fs b) (fD:¬u0o fs D) (I:Inv cx fs own1 σ1 h1) (x:OwnExt own own1 h) (k:Keep fs own noX h h1):
  CLoop cx fs own0 h0 kk It D C xs rest acc cenv sc' loc own1 σ1 h1:=by
 refine u1m L.acc_ fun ys n e rv=>?_
 have tk:=L.inv.tk0 k
 refine⟨I,L.ext.trans L.keep x,L.keep.trans L.ext k,fun b z=>?_,x.old e L.ownD,L.at_.keep tk (fun b o z e=>?_),⟨ys,n,k.odd e L.ownD fD,rv.tk tk⟩,L.rel.keep x k tk⟩
 ·refine u0d (L.at_.odd z) fun o e _=>?_
  exact x.old e (L.ownI b z)
 ·exact k.odd e (L.ownI b z) (fI b z)
theorem CLoop.weaken (L:CLoop cx fs own0 h0 kk It D C xs rest acc cenv sc' loc own σ h) (hw:∀(i:Nat) (mv:MV),loc2[i]?=some (some mv)→loc[i]?=some (some mv)):CLoop cx fs own0 h0 kk It D C xs rest acc cenv sc' loc2 own σ h:=
 ⟨L.inv,L.ext,L.keep,L.ownI,L.ownD,L.at_,L.acc_,L.rel.weaken hw⟩
end
inductive CEnd (cx:Cx T) (fs:List Env) (own:Addr→Option Addr) (h:Heap) (Q:MV→Hp→Prop) (D C:Addr) (s:Shared):Prop where
 |mk (own':Addr→Option Addr) (σ':Hp) (h':Heap) (t':Nat) (m:Str→Option Value) (e:s=cx.mk' h' t') (I:Inv cx fs own' σ' h') (x:OwnExt own own' h) (k:Keep fs own noX h h') (ns:h'.Ns C m) (oC:own' C=none) (bC:cx.base.get? C=none) (nC:h.get? C=none) (q:Q (.ref D) σ')
theorem w5w (hh:A.handled=none) {elt:ME} {conds:List ME} {ti:List Nat} {one:Bool} {tn:List Str} {target iter ex:Expr} {ifs:List Expr} {scope:Scope} {pos:Pos} {kk:ItK} {It D C:Addr} {xs:List MV} {cenv:Env} {nm':Nm} {sc':Sc}
  (sE:SndE cx CS elt) (sT:∀c ∈ conds,SndT cx CS c) (ac:ACtx A fs r) (gt:kk.plain=true∨∃es x p,target=.Tuple es x p) {bn:Addr→Prop} (sb:∀a,bn a→cx.ban a) (nb:∀a,ItX kk It a→¬bn a) (S:EStat cenv nm') (ht:u0m target=some (tn,one)) (tok:u4z nm' sc' tn ti) (tloc:∀x ∈ tn,nm'.lookup x=some .local)
  (cE:chkE cx.K T.sym nm' sc' elt ex=true) (cT:u1p cx.K T.sym nm' sc' conds ifs=true)
  (hC:cenv.locals=C) (nI:∀b,ItX kk It b→h.get? b=none) (nD:h.get? D=none) (nC:h.get? C=none) (ID:¬ItX kk It D) (bI:∀b,ItX kk It b→cx.base.get? b=none) (bD:cx.base.get? D=none) (bC:cx.base.get? C=none)
  (fI:∀b,ItX kk It b→¬u0o fs b) (fD:¬u0o fs D)
  {Q:MV→Hp→Prop} {st:Hp→Prop} (hst:∀σ,st σ→ItSt kk xs σ) {J:List MV→List MV→Hp→Prop} (hJ:∀rest acc σ',J rest acc σ'→st σ'∧acc.length≤u0t)
  (turn:∀x rest acc σ',J (x::rest) acc σ'→u9q ti one x loc fun loc'=>u4u T CS r conds loc' σ' (fun t σ3=>if t then ewp T CS r elt loc' σ3 (fun y σ4=>J rest (acc++[y]) σ4) (fun _ _=>False)else J rest acc σ3))
  (fin:∀acc σ',J [] acc σ'→newP (.list acc) σ' Q) {R:Result→Shared→Prop}
  (hR:∀s,CEnd (cx.wb bn) fs own h Q D C s→R (.ok .next) s):
  ∀own' σ' h' t',CLoop cx fs own h kk It D C xs xs [] cenv sc' (clear loc ti) own' σ' h'→J xs [] σ'→
   codeAny (model cx.prog cx.w) A (.compLoop (.ListComp ex [⟨target,iter,ifs,0⟩] scope pos) 0 (.ref It) (.ref D) cenv) R (cx.mk' h' t'):=by
 intro own' σ' h' t' L0 j0
 obtain⟨P,hP⟩:∃P:Nat→Shared→Prop,∀n s,P n s↔∃rest acc own' σ' h' t',n=rest.length∧s=cx.mk' h' t'∧CLoop cx fs own h kk It D C xs rest acc cenv sc' (clear loc ti) own' σ' h'∧J rest acc σ':=⟨_,fun _ _=>Iff.rfl⟩
 refine v4y P (fun n s z=>?_) xs.length ((hP _ _).mpr ⟨xs,[],own',σ',h',t',rfl,rfl,L0,j0⟩)
 clear L0 j0 own' σ' h' t'
 have hP2:∀{rest acc own' σ' h' t'},CLoop cx fs own h kk It D C xs rest acc cenv sc' (clear loc ti) own' σ' h'→J rest acc σ'→P rest.length (cx.mk' h' t'):=fun L j=>(hP _ _).mpr ⟨_,_,_,_,_,_,rfl,rfl,L,j⟩
 refine x8c ((hP _ _).mp z) fun rest acc own1 σ1 h1 t1 zz4 zz5 L j=>?_
 subst zz4
 subst zz5
 clear hP z
 refine u0a (hJ _ _ _ j) fun hst1 hlen=>?_
 obtain⟨LI,Lx,Lk,LoI,LoD,Lat,Lacc,LR⟩:=L
 refine u1m Lacc fun ys nD' eD rD=>?_
 have lD:=rD.length
 refine v1e hh LI Lat (hst _ hst1) (fun e h2 t2 hk=>?_) fun x rest' v h2 t2 e rv at2 hk=>?_
 ·subst e
  obtain⟨I2,tk⟩:=LI.butsR (bn:=bn) (h':=h2) (X:=ItX kk It) (fun a x=>⟨LoI a x,bI a x,fI a x,(Lat.odd x).odd.2⟩) hk (fun a ys n z _ y=>z (sb a y)) (fun a z=>by
   refine u1j (LI.bans a (sb a z)) fun ys n e=>?_
   exact⟨ys,n,hk a _ (fun x=>nb a x z) e⟩)
  have k2:Keep fs own noX h h2:=Lk.buts (Y:=ItX kk It) hk fun a x=>.inr (nI a x)
  have R2:ERel (cx.wb bn) cenv sc' (clear loc ti) own1 h2:=(LR.odds (fun b x=>(Lat.odd x).odd.1) hk tk).re fun a ys n z _ y=>z (sb a y)
  have eD2:=hk D _ ID eD
  refine u0d R2.ns fun m ns _=>?_
  have q:=fin _ _ j D (I2.sNone LoD bD)
  have I3:=I2.adopt (mo:=.list acc) LoD bD fD eD2 v8i ⟨ys,nD',eD2,(rD.tk tk).re fun a ys n z _ y=>z (sb a y)⟩
  have CD:C≠D:=fun z=>by
   refine u1b ns fun o es ep e d _=>?_
   have e':h2.get? D=some o:=by rw [←z,←hC];exact e
   rw [eD2]at e';cases e';cases d
  refine hR _ ⟨u1k own1 D,_,h2,t2,m,rfl,I3,⟨fun a y e=>?_,fun a y e=>?_⟩,k2,hC▸ns,?_,bC,nC,q⟩
  ·have:=Lx.up a y e
   unfold u1k
   by_cases z:a=D
   ·subst z;rw [LoD]at this;cases this
   ·rw [if_neg z];exact this
  ·unfold u1k at e
   by_cases z:a=D
   ·subst z
    refine .inr ⟨?_,nD⟩
    cases w:own a with
    |none=>rfl
    |some y'=>have:=Lx.up a y' w;rw [LoD]at this;cases this
   ·rw [if_neg z]at e;exact Lx.new a y e
  ·unfold u1k
   rw [if_neg CD,←hC];exact R2.ownL
 ·subst e
  refine u0a (LI.butsB (h':=h2) (X:=ItX kk It) (fun a x=>⟨LoI a x,bI a x,fun z=>absurd z (fI a x),fun ys n e=>⟨(Lat.odd x).odd.2 ys n e,at2.stay Lat x e⟩⟩) hk) fun I2 tk=>?_
  have k2:Keep fs own noX h h2:=Lk.buts (Y:=ItX kk It) hk fun a x=>.inr (nI a x)
  have R2:=LR.odds (fun b x=>(Lat.odd x).odd.1) hk tk
  have eD2:=hk D _ ID eD
  have iI:ItX kk It It:=ItX.self ..
  refine v8r at2 gt fun h2' at2' hk'=>?_
  refine u0a (I2.buts (X:=fun b=>b=It) (fun a x=>by subst x;exact⟨LoI a iI,bI a iI,fun z=>absurd z (fI a iI),at2.nt⟩) hk') fun I2' tk'=>?_
  have k2':Keep fs own noX h h2':=k2.buts (Y:=fun b=>b=It) hk' fun a x=>.inr (x▸nI _ iI)
  have R2':=R2.odd (at2.odd iI).odd.1 hk' tk'
  have eD2':=hk' D _ (fun z=>ID (z▸iI)) eD2
  refine u7p hh S I2' R2' ht tok (rv.tk tk') (v7i (turn _ _ _ _ j)) fun loc' h3 t3 z I3 R3 H3 tk3=>?_
  refine u0a z fun q hw=>?_
  have wr:∀a,wrX cenv tn a→a=C:=fun a z=>by
   refine Or.elim z (fun z=>?_) (fun zz504=>?_)
   ·exact z.trans hC
   ·obtain⟨x,hx,_,z⟩:=zz504
    rw [S.kindOf,tloc x hx]at z;cases z
  refine u0d R3.ns fun m3 ns3 _=>?_
  refine u0d R2'.ns fun m2 ns2 _=>?_
  have CD:C≠D:=fun z=>by
   refine u1b ns2 fun o es ep e d _=>?_
   have e':h2'.get? D=some o:=by rw [←z,←hC];exact e
   rw [eD2']at e';cases e';cases d
  have CI:¬ItX kk It C:=fun z=>by
   refine u1b ns2 fun o es ep e d _=>?_
   exact((at2'.odd z).odd.1 o (by rw [←hC];exact e)).1 _ _ d
  have L3:CLoop cx fs own h kk It D C xs rest' acc cenv sc' loc' own1 σ1 h3:=
   ⟨I3,Lx,k2'.hid H3 fun a z=>.inr (wr a z▸nC),LoI,LoD,at2'.keep tk3 fun b o y e=>H3.same _ _ (fun z=>CI (wr _ z▸y)) e,⟨ys,nD',H3.same _ _ (fun z=>CD (wr _ z).symm) eD2',((rD.tk tk).tk tk').tk tk3⟩,R3⟩
  refine u0e (v5o sT cT ⟨ac,S,I3,R3⟩ q) (fun e s z=>?_) fun b own4 σ4 h4 t4 I4 x4 k4 p=>?_
  ·obtain⟨_,_,_,_,_,_,_,_,_,_,_,_,_,z⟩:=z;exact z.elim
  have L4:=L3.go fI fD I4 x4 k4
  have p:(if b then ewp T CS r elt loc' σ4 (fun y σ4=>J rest' (acc++[y]) σ4) (fun _ _=>False)else J rest' acc σ4):=p
  cases b with
  |false=>exact⟨rest'.length,Nat.lt_succ_self _,hP2 (L4.weaken hw) p⟩
  |true=>
   simp only [if_true]at p ⊢
   refine u0e (sE nm' sc' ex cE A fs r cenv loc' own4 σ4 h4 t4 _ _ ⟨ac,S,I4,L4.rel⟩ p) (fun e s z=>?_) fun v5 own5 σ5 h5 t5 I5 x5 k5 p5=>?_
   ·obtain⟨_,_,_,_,_,_,_,_,_,_,_,_,_,z⟩:=z;exact z.elim
   obtain⟨y,ry,p5⟩:=p5
   have L5:=L4.go fI fD I5 x5 k5
   refine u1m L5.acc_ fun ys5 n5 e5 r5=>?_
   have l5:=r5.length
   refine v5f e5 (by rw [l5];exact hlen) fun h6 n6 e6 hk6=>?_
   refine u0a (x1p e5) fun oD ntD=>?_
   refine u0a (I5.buts (X:=fun b=>b=D) (fun a x=>by subst x;exact⟨L5.ownD,bD,fun z=>absurd z fD,ntD⟩) hk6) fun I6 tk6=>?_
   refine⟨rest'.length,Nat.lt_succ_self _,hP2 ⟨I6,L5.ext,L5.keep.buts (Y:=fun b=>b=D) hk6 fun a x=>.inr (x▸nD),L5.ownI,L5.ownD,L5.at_.keep tk6 fun b o y e=>hk6 b o (fun z=>ID (z▸y)) e,⟨ys5++[v5],n6,e6,?_⟩,(L5.rel.odd oD hk6 tk6).weaken hw⟩ p5⟩
   exact(r5.tk tk6).append (.cons (ry.tk tk6) .nil)
end
end Mine
end
section
open PySem PySem.W PyProof.Rows PySem.Builtin.ObjectAttr
set_option maxRecDepth 20000
namespace Mine
section
variable {T:Tab} {cx:Cx T} {CS:u1n} {A:Around} {fs:List Env} {r:Nat} {env:Env} {nm:Nm} {sc:Sc} {loc loc2:Loc} {own own1:Addr→Option Addr} {σ σ1:Hp} {h h0 h1 h2 h':Heap} {t:Nat} {X Y:Addr→Prop}
theorem v4x {elt e1 e2:ME} {conds:List ME} {ti:List Nat} {one:Bool} {k:SrcK} {tn:List Str} {target iter ex:Expr} {ifs:List Expr} {scope:Scope} {pos p:Pos}
  (sE:∀bn,SndE (cx.wb bn) CS elt) (s1:SndE cx CS e1) (s2:SndE cx CS e2) (sT:∀bn,∀c ∈ conds,SndT (cx.wb bn) CS c) (H:Here cx A fs r env nm sc loc own σ h)
  (ht:u0m target=some (tn,one)) (hk:scope.kind=.function) (cc:v1j scope.names nm tn ti sc=true) (hset:v6o iter=false)
  (cE:chkE cx.K T.sym (u3z scope.names nm) (u2l scope.names tn ti sc) elt ex=true) (cT:u1p cx.K T.sym (u3z scope.names nm) (u2l scope.names tn ti sc) conds ifs=true)
  (ok:w9x cx.K T.sym nm sc k e1 e2 iter) (hz:isZ k=true→one=false) {Q E:MV→Hp→Prop} (q:ewp T CS r (.comp elt ti one k e1 e2 conds) loc σ Q E)
  {use:Option (Value→Sem Unit)} {Q':Value→Shared→Prop}
  (hR:∀D C s,h.get? C=none→CEnd cx fs own h Q D C s→compPost (model cx.prog cx.w) A (Pst cx fs noX own h (EQ E)) use Q' (.ref D) C (.ok .next) s):
  wpAny (model cx.prog cx.w) A (comprehension (.ListComp ex [⟨target,iter,ifs,0⟩] scope pos) scope env p (newList []) false (eval iter env) use) Q' (Pst cx fs noX own h (EQ E)) (cx.mk' h t):=by
 refine u0a q fun hr q=>?_
 have cc:=w1b (cx:=cx) cc
 have cells:∀x ∈ scope.names,x.2=.free→∃c,env.cells.lookup x.1=some c:=fun x hx e=>by
  refine u0a (cc.free x hx e) fun z zz1=>?_
  refine u0i zz1 fun i hi=>?_
  rw [←H.stat.kindOf]at z
  refine u7o (H.rel.cells x.1 i hi z) fun c _ _ c1 _=>?_
  exact⟨c,c1⟩
 refine u1e (x3l env scope cells) fun cl hcl cl1 cl2=>?_
 have hh:=H.around.hd hr
 refine wpAny_comprehension_free rfl (u5p hset env) hcl hk cc.loc ?_
 refine v3m (F:=fun σ2 xs st=>_) s1 s2 ok H q fun bn It kk xs st own2 σ2 h2 t2 sub sup pl Rd hst F=>?_
 refine u4i F fun J j0 hJ turn fin=>?_
 refine wpAny_newObj_type (wpAny_newFunctionEnv cc.nocell (by intro y hy;simp at hy) (fun h3 ns3 sb3=>?_) hk)
 dsimp only at ns3 sb3 ⊢
 have sz:((cx.mk' h2 t2).heap.push {cls:=.type "list",dict:=none,data:=.seq ([]:List Value).toArray}).objs.size=h2.objs.size+1:=Heap.size_push ..
 generalize hHA:(cx.mk' h2 t2).heap.push {cls:=.type "list",dict:=none,data:=.seq ([]:List Value).toArray}=hA at ns3 sb3 sz ⊢
 have eDA:hA.get? h2.objs.size=some (listOf ([]:List Value).toArray 0):=by rw [←hHA];exact Heap.get?_push_size h2 rfl
 have upA:∀b o,h2.get? b=some o→hA.get? b=some o:=fun b o e=>by rw [←hHA];exact Heap.get?_push_of_some _ e
 have up3:∀b o,hA.get? b=some o→h3.get? b=some o:=fun b o e=>sb3.extBut b o (fun z=>by
  rw [z]at e;rw [get?_size]at e;cases e) (Heap.get?_push_of_some _ e)
 have up:∀b o,h2.get? b=some o→h3.get? b=some o:=fun b o e=>up3 b o (upA b o e)
 refine u0a (Rd.inv.grow up) fun I3 tk3=>?_
 have nD2:h2.get? h2.objs.size=none:=get?_size h2
 have nC2:h2.get? hA.objs.size=none:=Heap.get?_none_of_le (by rw [sz];lia)
 have old:∀{a:Addr},h2.get? a=none→h.get? a=none:=fun{a} e=>by
  cases w:h.get? a with
  |none=>rfl
  |some o=>refine u0i (Rd.keep.live a o w) fun o' e'=>?_;rw [e]at e';cases e'
 have baseNone:∀{a:Addr},h2.get? a=none→cx.base.get? a=none:=fun{a} e=>by
  cases w:cx.base.get? a with
  |none=>rfl
  |some o=>have:=Rd.inv.base a o w;rw [e]at this;cases this
 have ID:¬ItX kk It h2.objs.size:=fun z=>by
  refine u0d (Rd.at_.odd z) fun o e _=>?_
  rw [nD2]at e;cases e
 have kH:Keep fs own noX h h3:=Rd.keep.buts (Y:=noX) (fun b o _ e=>up b o e) fun _ x=>x.elim
 have Rl:ERel (cx.wb bn) env sc loc own2 h2:=ERel.keep (H.rel.re fun a ys n nb e z=>(sup a z).elim nb fun y=>by rw [Rd.new a y]at e;cases e) Rd.ext Rd.keep (TK.sub sub (H.inv.tk0 Rd.keep))
 have Rl3:=Rl.grow up
 have hcells:∀{x:Str} {c:Addr},cl.lookup x=some c→env.cells.lookup x=some c:=fun e=>cl1 _ (u0x e)
 have R3:ERel (cx.wb bn) (compEnvC scope cl hA.objs.size env) (u2l scope.names tn ti sc) (clear loc ti) own2 h3:=by
  refine⟨⟨_,ns3,fun x i mv g1 g2 g3=>?_⟩,(Rd.inv.fresh nC2).2,baseNone nC2,fun x i g1 g2=>?_,fun x y c g1 g2=>Rl.inj x y c (hcells g1) (hcells g2),fun x y i g1 g2=>w2t cc.nd g1 g2⟩
  ·refine u0a (u8k _ _ _ _ g2) fun _ g4=>?_
   refine Or.elim (cc.all (x,i) (u0x g1)) (fun zz501=>?_) (fun zz502=>?_)
   ·obtain⟨z,_⟩:=zz501
    exact absurd z g4
   ·obtain⟨_,z,_⟩:=zz502
    rw [(u8n (scope:=scope) H.stat hk).kindOf,u2w,z]at g3
    simp only [Option.map_some,Option.some.injEq]at g3
    split at g3<;>cases g3
  ·refine Or.elim (cc.all (x,i) (u0x g1)) (fun zz503=>?_) (fun zz504=>?_)
   ·obtain⟨_,z⟩:=zz503
    rw [(u8n (scope:=scope) H.stat hk).kindOf,u2w,z]at g2
    simp only [Option.map_some,Option.some.injEq]at g2
    have e0:(NameKind.local==NameKind.free)=false:=by decide
    simp only [e0,Bool.false_and,Bool.false_eq_true,if_false]at g2
    rcases g2 with g2|g2<;>cases g2
   ·obtain⟨zf,_,z⟩:=zz504
    refine u0a (cc.free _ zf rfl) fun kz _=>?_
    rw [←H.stat.kindOf]at kz
    refine u7m (Rl3.cells x i z kz) fun c o vo c1 c2 c3 c4 c5 c6 c8=>?_
    refine u0i (cl2 x zf) fun c' hc'=>?_
    refine u0i (u5d hc') fun c'' hc''=>?_
    have:=hcells hc''
    rw [c1]at this;cases this
    refine⟨c,o,vo,hc'',c2,c3,c4,c5,fun z=>?_,fun mv hm=>c8 mv (u8k _ _ _ _ hm).1⟩
    refine u1b ns3 fun o' es ep e d _=>?_
    have e':h3.get? c=some o':=by rw [z];exact e
    rw [c2]at e';cases e';rw [c3]at d;cases d
 have LI:CLoop (cx.wb bn) fs own h kk It h2.objs.size hA.objs.size xs xs [] (compEnvC scope cl hA.objs.size env) (u2l scope.names tn ti sc) (clear loc ti) own2 σ2 h3:=
  ⟨I3,Rd.ext,kH,Rd.ownI,(Rd.inv.fresh nD2).2,Rd.at_.keep tk3 fun b o _ e=>up b o e,⟨[],0,up3 _ _ eDA,.nil⟩,R3⟩
 have tgt:∀x ∈ tn,(u3z scope.names nm).lookup x=some .local:=fun x hx=>by
  refine u0i (List.getElem_of_mem hx) fun i zz2=>?_
  obtain⟨hi,hx'⟩:=zz2
  have hz:(x,ti[i]'(by rw [←cc.len];exact hi))∈ tn.zip ti:=by
   rw [←hx',←List.getElem_zip (h:=by rw [List.length_zip,←cc.len];lia)]
   exact List.getElem_mem _
  have:=(cc.tgt _ hz).2
  rw [u2w,this];rfl
 have loop:∀own' σ' h' t',CLoop (cx.wb bn) fs own h kk It h2.objs.size hA.objs.size xs xs [] (compEnvC scope cl hA.objs.size env) (u2l scope.names tn ti sc) (clear loc ti) own' σ' h'→J xs [] σ'→
   codeAny (model cx.prog cx.w) A (.compLoop (.ListComp ex [⟨target,iter,ifs,0⟩] scope pos) 0 (.ref It) (.ref h2.objs.size) (compEnvC scope cl hA.objs.size env)) (compPost (model cx.prog cx.w) A (Pst cx fs noX own h (EQ E)) use Q' (.ref h2.objs.size) hA.objs.size) (cx.mk' h' t'):=
  w5w (cx:=cx.wb bn) (bn:=cx.ban) hh (sE bn) (sT bn) H.around (pl.imp id fun z=>w2c (hz z▸ht)) sub (fun a y z=>by refine u1j (H.inv.bans a z) fun ys n e=>?_;rw [Rd.new a y]at e;cases e) (u8n H.stat hk) ht (x1g cc.len fun x hx=>⟨(cc.tgt x hx).1,.inl (by rw [u2w,(cc.tgt x hx).2];rfl)⟩) tgt cE cT rfl Rd.new (old nD2) (old nC2) ID Rd.baseI (baseNone nD2) (baseNone nC2)
   Rd.fr (u1z Rd.inv nD2) hst hJ turn fin fun s e=>hR _ _ s (old nC2) e
 have go:=loop own2 σ2 h3 (t2+([]:List (Str×Value)).length) LI j0
 exact codeAny_compStart_list go (w0f LI.at_ go)
theorem w9k (I0:Inv cx fs own σ h) {Q E:MV→Hp→Prop} {D C:Addr} {s:Shared} (hC:h.get? C=none) (e:CEnd cx fs own h Q D C s):compPost (model cx.prog cx.w) A (Pst cx fs noX own h (EQ E)) none (Pst cx fs noX own h (VQ cx Q)) (.ref D) C (.ok .next) s:=by
 obtain⟨own',σ',h',t',m,rfl,I,x,k,ns,oC,bC,_,q⟩:=e
 refine⟨m,ns,fun h'' sb=>?_⟩
 obtain⟨I',tk⟩:=I.buts (X:=fun b=>b=C) (h':=h'') (fun a x=>by
  subst x
  refine⟨oC,bC,fun z=>absurd z (u1z I0 hC),fun ys n e=>?_⟩
  refine u1b ns fun o' es ep e' d _=>?_
  have e2:h'.get? a=some o':=e'
  rw [e]at e2;cases e2;cases d) fun b o hb e=>sb.extBut b o hb e
 exact⟨h'',t',own',σ',rfl,I',x,k.buts (Y:=fun b=>b=C) (fun b o hb e=>sb.extBut b o hb e) fun a x=>.inr (x▸hC),.ref D,.mk_ref D,q⟩
theorem v1s {nm:Nm} {sc:Sc} {k:SrcK} {e1 e2:ME} {iter:Expr} (c:srcB cx.K T.sym nm sc k e1 e2 iter=true):w9x cx.K T.sym nm sc k e1 e2 iter:=by
 cases k with
 |exp=>
  refine u0a (Bool.and_eq_true_iff.mp c) fun c1 c2=>?_
  exact⟨v8n c1,c2⟩
 |range=>
  refine u0a (Bool.and_eq_true_iff.mp c) fun c1 c2=>?_
  refine⟨v8n c1,?_⟩
  refine x2w (iR c2) fun x p y pos zz3 d=>?_
  subst zz3
  simp only [Bool.and_eq_true,Bool.not_eq_true',beq_iff_eq]at d
  exact⟨x,p,y,pos,rfl,d.1.1.1,by simpa using d.1.1.2,d.1.2,d.2⟩
 |zip=>
  refine x2u (iZ c) fun x p y y' pos zz4 d=>?_
  subst zz4
  simp only [Bool.and_eq_true,Bool.not_eq_true',beq_iff_eq]at d
  exact⟨x,p,y,y',pos,rfl,d.1.1.1.1,by simpa using d.1.1.1.2,d.1.1.2,d.1.2,d.2⟩
end
end Mine
end
section
open PySem PySem.W PyProof.Rows PySem.Builtin.ObjectAttr
set_option maxRecDepth 20000
namespace Mine
section
variable {T:Tab} {cx:Cx T} {CS:u1n} {A:Around} {fs:List Env} {r:Nat} {env:Env} {nm:Nm} {sc:Sc} {loc loc2:Loc} {own own1:Addr→Option Addr} {σ σ1:Hp} {h h0 h1 h2 h':Heap} {t:Nat} {X Y:Addr→Prop}
theorem u6h {M:Model} {f:Value} {es:List Expr} {G:Args→Shared→Prop} {E:Value→Shared→Prop} {s:Shared} (w:wpAny M A (spliced (es.map fun e=>(false,eval e env))) (fun vs s=>G ⟨vs,[]⟩ s) E s) (w0:es=[]→G ⟨[],[]⟩ s):
  wpAny M A (evalArgs f true (es.map fun e=>(false,eval e env)) []) G E s:=by
 cases es with
 |nil=>exact PyProof.Rows.evalArgs_nil3 (w0 rfl)
 |cons e es=>exact Calls.evalArgs_plain w
theorem w9d {loc:Loc} {Q:List MV→Hp→Prop} {E:MV→Hp→Prop} (q:ewps T CS r [] loc σ Q E):Q [] σ:=q
theorem u5r (hCS:CSok cx CS) {ms:List ME} {f:Value} {es:List Expr} {pos:Pos} {us:List MV} {vs0:List Value} {Q E:MV→Hp→Prop} (ck:u5s cx.K f=true) (sa:v3f cx CS ms) (c:u1p cx.K T.sym nm sc ms es=true)
  (H:Here cx A fs r env nm sc loc own σ h) (r0:u0j cx.sy h us vs0) (q:ewps T CS r ms loc σ (fun vs σ2=>CS r f (us++vs) σ2 Q E) E):
  wpAny (model cx.prog cx.w) A (callWith pos f vs0 (backTo pos (starEach es env)) []) (Pst cx fs noX own h (VQ cx Q)) (Pst cx fs noX own h (EQ E)) (cx.mk' h t):=by
 rw [u1y c]
 have W:wpAny (model cx.prog cx.w) A (spliced (es.map fun e=>(false,eval e env))) (fun vs s=>cx.K.In s.heap∧wpAny (model cx.prog cx.w) A (call f (vs0++vs)) (Pst cx fs noX own h (VQ cx Q)) (Pst cx fs noX own h (EQ E)) s) (Pst cx fs noX own h (EQ E)) (cx.mk' h t):=
  u0e (sa nm sc es c A fs r env loc own σ h t _ E H q) (fun _ _ e=>e) fun vs own1 σ1 h1 t1 I x k p=>by
   obtain⟨ms',rv,_,p⟩:=p
   exact⟨I.K,wpAny_mono ((hCS _ _ _ _ _ _ p).at A fs own1 h1 t1 _ H.around I ((r0.tk (H.inv.tk0 k)).append rv)) (fun _ _ q=>q.up x k) fun _ _ q=>q.up x k⟩
 have W0:es=[]→cx.K.In h∧wpAny (model cx.prog cx.w) A (call f (vs0++[])) (Pst cx fs noX own h (VQ cx Q)) (Pst cx fs noX own h (EQ E)) (cx.mk' h t):=fun e=>by
  subst e
  have:=u2a c
  cases ms with
  |cons _ _=>cases this
  |nil=>exact⟨H.inv.K,(hCS _ _ _ _ _ _ (w9d q)).at A fs own h t _ H.around H.inv (by simpa using r0)⟩
 unfold u5s at ck
 rw [Bool.or_eq_true]at ck
 rcases ck with ck|ck
 ·refine callWith_of (P:=fun h=>cx.K.In h) ?_ (keeps_K ck) (u6h W W0)
  rw [v1v];rfl
 ·cases f with
  |builtin _=>exact Calls.callWith_builtin (v1v es env) (u6h (wpAny_mono W (fun _ _ z=>z.2) fun _ _ z=>z) fun e=>(W0 e).2)
  |type _=>exact PySem.callWith_type (v1v es env) (u6h (wpAny_mono W (fun _ _ z=>z.2) fun _ _ z=>z) fun e=>(W0 e).2)
  |_=>exact(Bool.false_ne_true ck).elim
theorem w0a (hCS:CSok cx CS) {f:ME} {ms:List ME} (sa:v3f cx CS ms):SndE cx CS (.call f ms):=fun nm sc ex c A fs r env loc own σ h t Q E H q=>by
 replace c:=w4w c
 obtain⟨fv,x,p,es,pos,rfl,rfl,c⟩:=c
 simp only [Bool.and_eq_true]at c
 refine al3 c fun c1 c3 c4=>?_
 rw [x8n]at q
 refine wpAny_Call_NameR ?_
 refine step (P:=VQ cx fun m σ'=>m=.con fv∧ewps T CS r ms loc σ' (fun vs σ2=>CS r fv vs σ2 Q E) E) (v3o (cx:=cx) (CS:=CS) fv nm sc _ c3 A fs r env loc own σ h t _ E H (x8m (CS:=CS)▸⟨rfl,q⟩)) fun v own1 σ1 h1 t1 I x k q=>?_
 obtain⟨m,rv,rfl,q⟩:=q
 obtain⟨rfl,_⟩:=rv.con_inv
 exact u5r hCS c1 sa c4 (H.go I x k) .nil q
theorem v9v (hCS:CSok cx CS) {o:ME} {n:Nat} {ms:List ME} (so:SndE cx CS o) (sa:v3f cx CS ms):SndE cx CS (.meth o n ms):=fun nm sc ex c A fs r env loc own σ h t Q E H q=>by
 replace c:=w4t c;obtain⟨g,a,apos,es,pos,rfl,c⟩:=c;rw [x8i]at q
 simp only [Bool.and_eq_true,beq_iff_eq,Bool.not_eq_true',decide_eq_true_eq]at c
 refine al6 c fun c1 c2 c3 c4 c5 c6=>?_
 rw [arm_eval_Call,v8z c2]
 refine wpAny_bind (step (so nm sc g c5 A fs r env loc own σ h t _ E H q) fun v own1 σ1 h1 t1 I x k q=>?_)
 obtain⟨m,rv,q⟩:=q
 have H1:=H.go I x k
 refine wpAny_bind (wpAny_standAt ?_)
 have hform:methodCallForm (es.length+([]:List Keyword).length) (backTo pos (starEach es env)) (backToKw pos (keywordEach [] env))=true:=by
  rw [u1y c6]
  unfold methodCallForm
  have e1:(es.map fun e=>((false,eval e env):Bool×Sem Value)).all (fun x=>!x.1)=true:=by simp
  have e2:(backToKw pos (keywordEach [] env))=[]:=rfl
  rw [e1,e2]
  simp;lia
 have hpos:methodCallPos true g env apos pos=pure pos:=by unfold methodCallPos;simp [c3]
 unfold methodCall
 rw [hform]
 refine wpAny_bind (wpAny_holding ?_)
 show wpAny (model cx.prog cx.w) A (getMethod v a _) _ _ _
 refine w0o I c1 rv q fun f us vs t' ck r0 q=>?_
 refine wpAny_bind (wpAny_of_eq hpos ?_)
 exact u5r hCS ck sa c6 H1 r0 q
theorem w2i {ms:List ME} (sa:v3f cx CS ms):SndE cx CS (.tup ms):=fun nm sc ex c A fs r env loc own σ h t Q E H q=>by
 replace c:=x7e c;obtain⟨es,x1,pos,rfl,c⟩:=c;rw [y8s]at q
 simp only [Bool.and_eq_true,decide_eq_true_eq]at c
 refine wpAny_Tuple_spliced ?_
 rw [u1y c.1]
 refine u0e (sa nm sc es c.1 A fs r env loc own σ h t _ E H q) (fun _ _ e=>e) fun vs own1 σ1 h1 t1 I x k p=>?_
 obtain⟨ms',rv,l,p⟩:=p
 have hl:vs.length≤30:=by rw [rv.length,l];exact c.2
 exact⟨Nat.le_trans hl (by decide),(u8w I rv p).up x k⟩
theorem v9w {ms:List ME} (sa:v3f cx CS ms):SndE cx CS (.list ms):=fun nm sc ex c A fs r env loc own σ h t Q E H q=>by
 replace c:=x2h c;obtain⟨es,pos,rfl,c⟩:=c;rw [x8j]at q
 simp only [Bool.and_eq_true,decide_eq_true_eq]at c
 show wpAny _ _ (do standAt pos;newList (←spliced (backTo pos (starEach es env)))) _ _ _
 refine wpAny_bind (wpAny_standAt (wpAny_bind ?_))
 rw [u1y c.1]
 refine u0e (sa nm sc es c.1 A fs r env loc own σ h t _ E H q) (fun _ _ e=>e) fun vs own1 σ1 h1 t1 I x k p=>?_
 obtain⟨ms',rv,l,p⟩:=p
 have hl:vs.length≤30:=by rw [rv.length,l];exact c.2
 exact wpAny_newList ((u8j I rv p).up x k) (Nat.le_trans hl (by decide))
theorem w7c:SndE cx CS .dI:=fun nm sc ex c A fs r env loc own σ h t Q E H q=>by
 replace c:=y8b c;refine u0i c fun _ zz9=>?_;subst zz9;rw [e_dI]at q
 refine wpAny_Dict_empty ?_
 have e:=get?_size h
 have up:∀b o,h.get? b=some o→(h.push {cls:=.type "dict",data:=.dict #[]}).get? b=some o:=fun b o=>Heap.get?_push_of_some _
 have gt:(h.push {cls:=.type "dict",data:=.dict #[]}).get? h.objs.size=some {cls:=.type "dict",data:=.dict #[]}:=Heap.get?_push_size h rfl
 refine u2k (H.inv.alloc (mo:=.dI []) (h':=h.push {cls:=.type "dict",data:=.dict #[]}) e (u1r H.inv) up gt v4w (fun tk=>⟨by have:=modules_low H.inv.top.nolimit;simp only [beq_eq_false_iff_ne];exact Nat.ne_of_gt this,[],Heap.DictOf.new h,rfl⟩)) fun I' k x=>?_
 exact⟨_,t,_,_,rfl,I',x,k,.ref h.objs.size,.mk_ref _,q _ (H.inv.fresh e).1⟩
theorem w7a:SndE cx CS .dS:=fun nm sc ex c A fs r env loc own σ h t Q E H q=>by
 replace c:=y7z c;refine u0i c fun _ zz10=>?_;subst zz10
 ·replace q:newP (.dS []) σ Q:=q
  refine wpAny_Dict_empty ?_
  have e:=get?_size h
  have up:∀b o,h.get? b=some o→(h.push {cls:=.type "dict",data:=.dict #[]}).get? b=some o:=fun b o=>Heap.get?_push_of_some _
  have gt:(h.push {cls:=.type "dict",data:=.dict #[]}).get? h.objs.size=some {cls:=.type "dict",data:=.dict #[]}:=Heap.get?_push_size h rfl
  obtain⟨I',k,x⟩:=H.inv.alloc (mo:=.dS []) (h':=h.push {cls:=.type "dict",data:=.dict #[]}) e (u1r H.inv) up gt v4w (fun tk=>⟨[],Heap.DictOf.new h,rfl⟩)
  exact⟨_,t,_,_,rfl,I',x,k,.ref h.objs.size,.mk_ref _,q _ (H.inv.fresh e).1⟩
theorem w2o {c a b:ME} (sc':SndT cx CS c) (sa:SndE cx CS a) (sb:SndE cx CS b):SndE cx CS (.ite c a b):=fun nm sc ex c A fs r env loc own σ h t Q E H q=>by
 replace c:=x0q c;obtain⟨x,y,z,pos,rfl,c⟩:=c;rw [y8w]at q
 simp only [Bool.and_eq_true]at c
 refine wpAny_IfExp ?_
 refine u0e (sc' nm sc x c.1.1 A fs r env loc own σ h t _ E H q) (fun _ _ e=>e) fun b own1 σ1 h1 t1 I x k p=>?_
 have H1:=H.go I x k
 cases b with
 |true=>exact wpAny_mono (sa nm sc y c.1.2 A fs r env loc own1 σ1 h1 t1 Q E H1 p) (fun _ _ q=>q.up x k) fun _ _ q=>q.up x k
 |false=>exact wpAny_mono (sb nm sc z c.2 A fs r env loc own1 σ1 h1 t1 Q E H1 p) (fun _ _ q=>q.up x k) fun _ _ q=>q.up x k
theorem v9z {elt e1 e2:ME} {conds:List ME} {ti:List Nat} {one:Bool} {k:SrcK} (sE:∀bn,SndE (cx.wb bn) CS elt) (s1:SndE cx CS e1) (s2:SndE cx CS e2) (sT:∀bn,∀c ∈ conds,SndT (cx.wb bn) CS c):SndE cx CS (.comp elt ti one k e1 e2 conds):=fun nm sc ex c A fs r env loc own σ h t Q E H q=>by
 replace c:=w4v c
 obtain⟨el,target,iter,ifs,scope,pos,tn,rfl,ht,c⟩:=c
 simp only [Bool.and_eq_true,beq_iff_eq,Bool.not_eq_true']at c
 refine al7 c fun c2 c3 c4 c5 c6 c7 c8=>?_
 rw [eval_ListComp]
 exact v4x sE s1 s2 sT H ht c2 c3 c4 c5 c6 (v1s c7) (fun z=>by rw [z]at c8;exact c8) q fun D C s hC e=>w9k H.inv hC e
inductive PrQ (cx:Cx T) (ks:List Nat) (Q:List MV→Hp→Prop) (v:List (Value×Value)) (σ:Hp) (h:Heap):Prop where
 |mk (m:List MV) (l:List (Str×Value)) (len:m.length=ks.length) (r:KvS cx.sy h (ks.zip m) l) (c:Carries (strKind cx.prog cx.w) v l) (q:Q m σ)
theorem v6h {A:Around} {fs:List Env} {r:Nat} {env:Env} {nm:Nm} {sc:Sc} {loc:Loc} {pos:Pos} {E:MV→Hp→Prop} {ms:List ME} (sm:∀m ∈ ms,SndE cx CS m):∀{ks:List Nat} {es:List (Option Expr)} {vs:List Expr} {own:Addr→Option Addr} {σ:Hp} {h:Heap} {t:Nat} {Q:List MV→Hp→Prop},
  v4c T.sym ks es=true→ks.length=ms.length→u1p cx.K T.sym nm sc ms vs=true→Here cx A fs r env nm sc loc own σ h→ewps T CS r ms loc σ Q E→
  wpAny (model cx.prog cx.w) A (evalPairs (pairTrees es vs env pos)) (Pst cx fs noX own h (PrQ cx ks Q)) (Pst cx fs noX own h (EQ E)) (cx.mk' h t):=by
 induction ms with
 |nil=>
  intro ks es vs own σ h t Q c1 c2 c3 H q
  cases ks with
  |cons _ _=>cases c2
  |nil=>
   rw [v8l c1,v6p c3]
   exact pairTrees_nil_walk (Pst.here H.inv ⟨[],[],rfl,rfl,trivial,q⟩)
 |cons m ms ih=>
  intro ks es vs own σ h t Q c1 c2 c3 H q
  cases ks with
  |nil=>cases c2
  |cons n ks=>
   refine v6x (v4b c1) fun x p1 p2 es' z1 ex c5=>?_
   refine u1c (w8f c3) fun e vs' z2 d1 c6=>?_
   subst z1
   subst z2
   rw [w5m]at q
   refine pairTrees_cons_walk (wpAny_Constant_str ?_)
   refine u0e (sm m (List.mem_cons_self ..) nm sc e d1 A fs r env loc own σ h _ _ E H q) (fun _ _ e=>e) fun v own1 σ1 h1 t1 I x1 k p=>?_
   obtain⟨mv,rv,p⟩:=p
   refine u0e (ih (fun m hm=>sm m (List.mem_cons_of_mem _ hm)) c5 (Nat.succ.inj c2) c6 (H.go I x1 k) p) (fun _ _ e=>e.up x1 k) fun prs own2 σ2 h2 t2 I2 x2 k2 p2=>?_
   obtain⟨mvs,l,len,rl,cc,p2⟩:=p2
   exact((Pst.here I2 ⟨mv::mvs,(x,v)::l,congrArg Nat.succ len,⟨x,v,l,ex,rfl,rv.tk (I.tk0 k2),rl⟩,⟨strKind_is ..,rfl,cc⟩,p2⟩).up x2 k2).up x1 k
theorem w8a {sy:List Str} {ks:List Nat}:∀{es:List (Option Expr)},v4c sy ks es=true→es.all (·.isSome)=true∧es.length=ks.length:=by
 induction ks with
 |nil=>intro es c;rw [v8l c];exact⟨rfl,rfl⟩
 |cons n ks ih=>
  intro es c
  refine v6x (v4b c) fun x p1 p2 es' z _ c=>?_
  rw [z]
  exact⟨(ih c).1,congrArg Nat.succ (ih c).2⟩
theorem w4b {K:Type} [DecidableEq K] (more:List (K×Value)):∀acc:List (K×Value),((acc++more).map (·.1)).Nodup→merged acc more=acc++more:=by
 induction more with
 |nil=>intro acc _;exact(List.append_nil acc).symm
 |cons kv more ih=>
  intro acc nd
  have e:stored acc kv.1 kv.2=acc++[kv]:=by
   unfold stored
   rw [if_neg]
   intro z
   refine u0d (List.any_eq_true.mp z) fun y hy z=>?_
   rw [List.map_append,List.nodup_append]at nd
   exact nd.2.2 _ (List.mem_map_of_mem hy) _ (List.mem_cons_self ..) (of_decide_eq_true z)
  have:merged acc (kv::more)=merged (stored acc kv.1 kv.2) more:=rfl
  rw [this,e,ih _ (by rw [List.append_assoc];exact nd),List.append_assoc]
  rfl
theorem KvS.keys {h:Heap} (cx:Cx T) {ks:List Nat} {x:Str}:∀{ms:List MV} {l:List (Str×Value)},KvS cx.sy h (ks.zip ms) l→ms.length=ks.length→x ∈ l.map (·.1)→∃n ∈ ks,T.sym[n]?=some x:=by
 induction ks with
 |nil=>intro ms l r _ hx;rw [show l=[]from r]at hx;cases hx
 |cons n ks ih=>
  intro ms l r e hx
  cases ms with
  |nil=>cases e
  |cons m ms=>
   refine u7n r fun y v l' ey z _ r2=>?_
   rw [z]at hx
   refine Or.elim (List.mem_cons.mp hx) (fun z=>⟨n,List.mem_cons_self ..,z▸ey⟩) fun hx=>?_
   exact u0d (ih r2 (Nat.succ.inj e) hx) fun n' hn e'=>⟨n',List.mem_cons_of_mem _ hn,e'⟩
theorem KvS.nd {h:Heap} (cx:Cx T) {ks:List Nat}:∀{ms:List MV} {l:List (Str×Value)},KvS cx.sy h (ks.zip ms) l→ms.length=ks.length→ks.Nodup→(l.map (·.1)).Nodup:=by
 induction ks with
 |nil=>intro ms l r _ _;rw [show l=[]from r];exact List.nodup_nil
 |cons n ks ih=>
  intro ms l r e nd
  cases ms with
  |nil=>cases e
  |cons m ms=>
   refine u7n r fun y v l' ey z _ r2=>?_
   rw [z]
   refine List.nodup_cons.mpr ⟨fun hx=>?_,ih r2 (Nat.succ.inj e) (List.nodup_cons.mp nd).2⟩
   exact u0d (KvS.keys cx r2 (Nat.succ.inj e) hx) fun n' hn e'=>(List.nodup_cons.mp nd).1 (u7d cx ey e'▸hn)
theorem w7b {ks:List Nat} {ms:List ME} (sv:∀m ∈ ms,SndE cx CS m):SndE cx CS (.dK ks ms):=fun nm sc ex c A fs r env loc own σ h t Q E H q=>by
 refine w5k (y8a c) fun es vs p zz19 c1 c2 c3 c4 c5=>?_;subst zz19;rw [e_dK]at q
 refine u0a (w8a c1) fun a1 a2=>?_
 refine wpAny_Dict_walk (knd:=strKind cx.prog cx.w) a1 (by rw [a2,c3,u2a c5]) (fun z=>by rw [z]at a2;rw [←a2]at c4;exact absurd c4.1 (Nat.lt_irrefl 0)) (a2▸c4.2) ?_
 have n0:=get?_size h
 have b0:=u1r H.inv
 have f0:=u1z H.inv n0
 refine u0a (H.inv.push_any {cls:=.type "dict",data:=.dict #[]}) fun I1 k1=>?_
 have g0:(h.push {cls:=.type "dict",data:=.dict #[]}).get? h.objs.size=some {cls:=.type "dict",data:=.dict #[]}:=Heap.get?_push_size h rfl
 have m0:=(H.inv.fresh n0).2
 refine wpAny_mono (v6h sv c1 c3 c5 (H.go I1 (.refl ..) k1) q) (fun prs s' z=>?_) fun _ _ z=>z.up (.refl ..) k1
 obtain⟨h',t',own',σ',rfl,I,x,k,⟨mvs,l,len,rl,cc,q⟩⟩:=z
 have g1:=k.odd g0 m0 f0
 have m1:own' h.objs.size=none:=by
  cases w:own' h.objs.size with
  |none=>rfl
  |some y=>
   refine Or.elim (x.new _ y w) (fun z=>?_) (fun zz522=>?_)
   ·rw [m0]at z;cases z
   ·obtain⟨_,z⟩:=zz522
    exact ns (z.symm.trans g0)
 refine⟨l,cc,(Heap.DictOf.new h).at fun o e=>e.symm▸(g0▸g1:_),fun h3 D sb=>?_⟩
 rw [w4b l [] (KvS.nd cx rl len c2)]at D
 obtain⟨I3,tk⟩:=I.buts (X:=fun b=>b=h.objs.size) (h':=h3) (fun a x=>by
  subst x
  exact⟨m1,b0,fun z=>absurd z f0,fun ys n e=>by rw [g1]at e;exact u9l (by decide) (congrArg Obj.cls (Option.some.inj e))⟩) fun b o hb e=>sb.extBut b o hb e
 refine u1j (id D) fun o hd1 hd2=>?_
 have I4:=I3.adopt (mo:=.dS (ks.zip mvs)) m1 b0 f0 hd2.choose_spec.1 (by have:=hd2.choose_spec.2.1;exact fun z=>v4w (this.1.symm.trans z)) ⟨l,D,rl.tk tk⟩
 have kk:Keep fs own noX h h':=k1.trans (.refl ..) k
 refine⟨h3,_,_,_,rfl,I4,?_,kk.buts (Y:=fun b=>b=h.objs.size) (fun b o hb e=>sb.extBut b o hb e) fun a x=>.inr (x▸n0),.ref h.objs.size,.mk_ref _,q _ (I3.sNone m1 b0)⟩
 have xx:=(OwnExt.refl own h).trans k1 x
 refine⟨fun a y e=>?_,fun a y e=>?_⟩
 ·have:=xx.up a y e
  unfold u1k
  by_cases z:a=h.objs.size
  ·subst z;rw [m1]at this;cases this
  ·rw [if_neg z];exact this
 ·unfold u1k at e
  by_cases z:a=h.objs.size
  ·subst z;exact .inr ⟨m0,n0⟩
  ·rw [if_neg z]at e;exact xx.new a y e
theorem v9r:v3f cx CS []:=fun nm sc es c A fs r env loc own σ h t Q E H q=>by
 have:=u2a c
 cases es with
 |cons _ _=>cases this
 |nil=>exact Calls.spliced_nil (Pst.here H.inv ⟨[],.nil,rfl,q⟩)
theorem v5x {m:ME} {ms:List ME} (s1:SndE cx CS m) (s2:v3f cx CS ms):v3f cx CS (m::ms):=fun nm sc es c A fs r env loc own σ h t Q E H q=>by
 cases es with
 |nil=>exact(Bool.false_ne_true c).elim
 |cons e es=>
  replace c:=Bool.and_eq_true_iff.mp (show(chkE cx.K T.sym nm sc m e && u1p cx.K T.sym nm sc ms es)=true from c);rw [w5m]at q
  rw [List.map_cons]
  refine Calls.spliced_cons ?_
  refine u0e (s1 nm sc e c.1 A fs r env loc own σ h t _ E H q) (fun _ _ e=>e) fun v own1 σ1 h1 t1 I x k p=>?_
  obtain⟨mv,rv,p⟩:=p
  refine u0e (s2 nm sc es c.2 A fs r env loc own1 σ1 h1 t1 _ E (H.go I x k) p) (fun _ _ e=>e.up x k) fun vs own2 σ2 h2 t2 I2 x2 k2 p2=>?_
  obtain⟨mvs,rvs,l,p2⟩:=p2
  exact((Pst.here I2 ⟨mv::mvs,.cons (rv.tk (I.tk0 k2)) rvs,by rw [List.length_cons,List.length_cons,l],p2⟩).up x2 k2).up x k
theorem v9s:SndB cx CS []:=fun nm sc es c isAnd pos A fs r env loc own σ h t Q E H q=>by
 exact(show False from q).elim
theorem v5y {m:ME} {ms:List ME} (s1:SndE cx CS m) (s2:SndB cx CS ms):SndB cx CS (m::ms):=fun nm sc es c isAnd pos A fs r env loc own σ h t Q E H q=>by
 cases es with
 |nil=>exact(Bool.false_ne_true c).elim
 |cons e es=>
  replace c:=Bool.and_eq_true_iff.mp (show(chkE cx.K T.sym nm sc m e && u1p cx.K T.sym nm sc ms es)=true from c)
  have l:=u2a c.2
  show wpAny _ _ (boolOp pos _ (eval e env::evalEach es env)) _ _ _
  cases ms with
  |nil=>
   cases es with
   |cons _ _=>cases l
   |nil=>exact s1 nm sc e c.1 A fs r env loc own σ h t Q E H q
  |cons m' ms'=>
   cases es with
   |nil=>cases l
   |cons e' es'=>
    show wpAny _ _ (do
     let v←eval e env
     standAt pos
     let t←holding [v] (truthy v)
     match (if isAnd then BoolOp.And else BoolOp.Or),t with
     |.And,false|.Or,true=>pure v
     |_,_=>boolOp pos (if isAnd then BoolOp.And else BoolOp.Or) (evalEach (e'::es') env)) _ _ _
    rw [x8z]at q
    refine wpAny_bind ?_
    refine u0e (s1 nm sc e c.1 A fs r env loc own σ h t _ E H q) (fun _ _ e=>e) fun v own1 σ1 h1 t1 I x k p=>?_
    obtain⟨mv,rv,p⟩:=p
    refine wpAny_bind (wpAny_standAt (wpAny_bind (wpAny_holding (u5x rv p fun b t' p=>?_))))
    have rest:u5v T CS r isAnd (m'::ms') loc σ1 Q E→wpAny (model cx.prog cx.w) A (boolOp pos (if isAnd then BoolOp.And else BoolOp.Or) (evalEach (e'::es') env)) (Pst cx fs noX own h (VQ cx Q)) (Pst cx fs noX own h (EQ E)) (cx.mk' h1 t'):=fun p=>
     wpAny_mono (s2 nm sc (e'::es') c.2 isAnd pos A fs r env loc own1 σ1 h1 t' Q E (H.go I x k) p) (fun _ _ q=>q.up x k) fun _ _ q=>q.up x k
    cases b<;>cases isAnd
    ·exact rest p
    ·exact wpAny_pure ((u0r I rv p).up x k)
    ·exact wpAny_pure ((u0r I rv p).up x k)
    ·exact rest p
theorem v9t:SndA cx CS []:=fun nm sc es c isAnd A fs r env loc own σ h t Q E H q=>by
 have:=u2a c
 cases es with
 |cons _ _=>cases this
 |nil=>
  cases isAnd<;>exact wpAny_pure (Pst.here H.inv q)
theorem v5z {m:ME} {ms:List ME} (s1:SndT cx CS m) (s2:SndA cx CS ms):SndA cx CS (m::ms):=fun nm sc es c isAnd A fs r env loc own σ h t Q E H q=>by
 cases es with
 |nil=>exact(Bool.false_ne_true c).elim
 |cons e es=>
  replace c:=Bool.and_eq_true_iff.mp (show(chkE cx.K T.sym nm sc m e && u1p cx.K T.sym nm sc ms es)=true from c);rw [x3w]at q
  show wpAny _ _ (do
   match (if isAnd then BoolOp.And else BoolOp.Or),←isTrue e env (eval e env)with
   |.And,false=>pure false
   |.Or,true=>pure true
   |_,_=>allTrue (if isAnd then BoolOp.And else BoolOp.Or) es env) _ _ _
  refine wpAny_bind ?_
  refine u0e (s1 nm sc e c.1 A fs r env loc own σ h t _ E H q) (fun _ _ e=>e) fun b own1 σ1 h1 t1 I x k p=>?_
  have p:(if b==isAnd then u4x T CS r isAnd ms loc σ1 Q E else Q b σ1):=p
  have rest:u4x T CS r isAnd ms loc σ1 Q E→wpAny (model cx.prog cx.w) A (allTrue (if isAnd then BoolOp.And else BoolOp.Or) es env) (Pst cx fs noX own h (BQ Q)) (Pst cx fs noX own h (EQ E)) (cx.mk' h1 t1):=fun p=>
   wpAny_mono (s2 nm sc es c.2 isAnd A fs r env loc own1 σ1 h1 t1 Q E (H.go I x k) p) (fun _ _ q=>q.up x k) fun _ _ q=>q.up x k
  cases b<;>cases isAnd
  ·exact rest p
  ·exact wpAny_pure ((Pst.here I p).up x k)
  ·exact wpAny_pure ((Pst.here I p).up x k)
  ·exact rest p
theorem w1t {m:ME} (s1:SndE cx CS m) (hm:∀r loc σ Q E,twp T CS r m loc σ Q E→ewp T CS r m loc σ (fun v σ1=>u1u v fun b=>Q b σ1) E)
  (hp:∀nm sc ex,chkE cx.K T.sym nm sc m ex=true→∀env whole,isTrue ex env whole=(do let v←whole;standAt ex.pos;holding [v] (truthy v))):SndT cx CS m:=fun nm sc ex c A fs r env loc own σ h t Q E H q=>by
 refine isTrue_plain ?_ (hp nm sc ex c env _)
 refine u0e (s1 nm sc ex c A fs r env loc own σ h t _ E H (hm _ _ _ _ _ q)) (fun _ _ e=>e) fun v own1 σ1 h1 t1 I x k p=>?_
 obtain⟨mv,rv,p⟩:=p
 exact u5x rv p fun b t' p=>(Pst.here I p).up x k
theorem v9e {m:ME} (s1:SndT cx CS m):SndT cx CS (.not m):=fun nm sc ex c A fs r env loc own σ h t Q E H q=>by
 replace c:=x0o c;obtain⟨e,pos,rfl,c⟩:=c;rw [x9s]at q
 refine PyProof.Rows.isTrue_not (wpAny_mono (s1 nm sc e c A fs r env loc own σ h t _ E H q) (fun b s p=>?_) fun _ _ e=>e)
 obtain⟨h',t',own',σ',e,I,x',k',q⟩:=p
 exact⟨h',t',own',σ',e,I,x',k',q⟩
theorem v9h {ms:List ME} (s1:SndA cx CS ms):SndT cx CS (.and ms):=fun nm sc ex c A fs r env loc own σ h t Q E H q=>by
 replace c:=x0t c;obtain⟨_,_,rfl,c⟩:=c;rw [x9v]at q
 exact wpAny_isTrue_BoolOp (s1 nm sc _ c true A fs r env loc own σ h t Q E H q)
theorem w1s {ms:List ME} (s1:SndA cx CS ms):SndT cx CS (.or ms):=fun nm sc ex c A fs r env loc own σ h t Q E H q=>by
 replace c:=x7h c;obtain⟨_,_,rfl,c⟩:=c;rw [t_or]at q
 exact wpAny_isTrue_BoolOp (s1 nm sc _ c false A fs r env loc own σ h t Q E H q)
theorem v9f {c a b:ME} (sc':SndT cx CS c) (sa:SndT cx CS a) (sb:SndT cx CS b):SndT cx CS (.ite c a b):=fun nm sc ex c A fs r env loc own σ h t Q E H q=>by
 replace c:=x0q c;obtain⟨x,y,z,pos,rfl,c⟩:=c;rw [x9t]at q
 simp only [Bool.and_eq_true]at c
 refine PyProof.Rows.isTrue_IfExp ?_
 refine u0e (sc' nm sc x c.1.1 A fs r env loc own σ h t _ E H q) (fun _ _ e=>e) fun b own1 σ1 h1 t1 I x k p=>?_
 have H1:=H.go I x k
 cases b with
 |true=>exact wpAny_mono (sa nm sc y c.1.2 A fs r env loc own1 σ1 h1 t1 Q E H1 p) (fun _ _ q=>q.up x k) fun _ _ q=>q.up x k
 |false=>exact wpAny_mono (sb nm sc z c.2 A fs r env loc own1 σ1 h1 t1 Q E H1 p) (fun _ _ q=>q.up x k) fun _ _ q=>q.up x k
end
end Mine
end
section
open PySem PySem.W PyProof.Rows PySem.Builtin.ObjectAttr
set_option maxRecDepth 20000
namespace Mine
section
variable {T:Tab} {cx:Cx T} {CS:u1n}
theorem w1u {m:ME} (hm:∀r loc σ Q E,¬twp T CS r m loc σ Q E):SndT cx CS m:=fun _ _ _ _ _ _ r _ loc _ σ _ _ Q E _ q=>absurd q (hm r loc σ Q E)
theorem CSok.wb (h:CSok cx CS) (bn:Addr→Prop):CSok (cx.wb bn) CS:=fun r f args σ Q E c=>h r f args σ Q E c
theorem u8g {ms:List ME} (h:∀m ∈ ms,SndE cx CS m):v3f cx CS ms:=by
 induction ms with
 |nil=>exact v9r
 |cons m ms ih=>exact v5x (h m (.head _)) (ih fun m' z=>h m' (.tail _ z))
theorem w2u {ms:List ME} (h:∀m ∈ ms,SndE cx CS m):SndB cx CS ms:=by
 induction ms with
 |nil=>exact v9s
 |cons m ms ih=>exact v5y (h m (.head _)) (ih fun m' z=>h m' (.tail _ z))
theorem w2v {ms:List ME} (h:∀m ∈ ms,SndT cx CS m):SndA cx CS ms:=by
 induction ms with
 |nil=>exact v9t
 |cons m ms ih=>exact v5z (h m (.head _)) (ih fun m' z=>h m' (.tail _ z))
noncomputable def MOk (T:Tab) (CS:u1n) (m:ME):Prop:=∀cx:Cx T,CSok cx CS→SndE cx CS m∧SndT cx CS m
noncomputable def MsOk (T:Tab) (CS:u1n) (ms:List ME):Prop:=∀m ∈ ms,MOk T CS m
theorem MsOk.es {ms:List ME} (h:MsOk T CS ms) (o:CSok cx CS):∀m ∈ ms,SndE cx CS m:=fun m z=>(h m z cx o).1
theorem MsOk.ts {ms:List ME} (h:MsOk T CS ms) (o:CSok cx CS):∀m ∈ ms,SndT cx CS m:=fun m z=>(h m z cx o).2
theorem MOk.no {m:ME} (h:∀cx:Cx T,CSok cx CS→SndE cx CS m) (hm:∀r loc σ Q E,¬twp T CS r m loc σ Q E):MOk T CS m:=fun cx o=>⟨h cx o,w1u hm⟩
theorem MOk.of {m:ME} (h:∀cx:Cx T,CSok cx CS→SndE cx CS m) (hm:∀r loc σ Q E,twp T CS r m loc σ Q E→ewp T CS r m loc σ (fun v σ1=>u1u v fun b=>Q b σ1) E)
  (hp:∀(cx:Cx T) nm sc ex,chkE cx.K T.sym nm sc m ex=true→∀env whole,isTrue ex env whole=(do let v←whole;standAt ex.pos;holding [v] (truthy v))):MOk T CS m:=fun cx o=>⟨h cx o,w1t (h cx o) hm (hp cx)⟩
theorem sndM (m:ME):MOk T CS m:=@ME.rec (MOk T CS) (MsOk T CS)
 (.no (fun cx o=>v9u) fun r loc σ Q E=>id)
 (fun b=>.of (fun cx o=>w0b b) (fun r loc σ Q E=>id) fun cx nm sc ex c env whole=>u1j (w4x c) fun _ _ z=>z▸rfl)
 (fun i=>.no (fun cx o=>w2p i) fun r loc σ Q E=>id)
 (fun n=>.no (fun cx o=>w2j n) fun r loc σ Q E=>id)
 (fun i=>.of (fun cx o=>w2n i) (fun r loc σ Q E=>id) fun cx nm sc ex c env whole=>u1m (x0p c) fun _ _ z _=>z▸rfl)
 (fun v=>.no (fun cx o=>v3o v) fun r loc σ Q E=>id)
 (fun i=>.no (fun cx o=>v9y i) fun r loc σ Q E=>id)
 (fun e n h=>.of (fun cx o=>w0c n (h cx o).1) (fun r loc σ Q E=>id) fun cx nm sc ex c env whole=>u7o (w4y c) fun _ _ _ z _=>z▸rfl)
 (fun e i h hi=>.of (fun cx o=>v9x (h cx o).1 (hi cx o).1) (fun r loc σ Q E=>id) fun cx nm sc ex c env whole=>u7o (w4u c) fun _ _ _ z _=>z▸rfl)
 (fun e a b h ha hb=>.no (fun cx o=>v6a (h cx o).1 (ha cx o).1 (hb cx o).1) fun r loc σ Q E=>id)
 (fun p a b ha hb=>.of (fun cx o=>w2r (ha cx o).1 (hb cx o).1) (fun r loc σ Q E=>id) fun cx nm sc ex c env whole=>x2w (x0s c) fun _ _ _ _ z _=>z▸rfl)
 (fun e h cx o=>⟨w2l (h cx o).1,v9e (h cx o).2⟩)
 (fun e h=>.no (fun cx o=>w2m (h cx o).1) fun r loc σ Q E=>id)
 (fun es h cx o=>⟨w2s (w2u (h.es o)),v9h (w2v (h.ts o))⟩)
 (fun es h cx o=>⟨w6z (w2u (h.es o)),w1s (w2v (h.ts o))⟩)
 (fun p a b ha hb cx o=>⟨w2q (ha cx o).1 (hb cx o).1,v9g (ha cx o).1 (hb cx o).1⟩)
 (fun c a b hc ha hb cx o=>⟨w2o (hc cx o).2 (ha cx o).1 (hb cx o).1,v9f (hc cx o).2 (ha cx o).2 (hb cx o).2⟩)
 (fun es h=>.no (fun cx o=>w2i (u8g (h.es o))) fun r loc σ Q E=>id)
 (fun es h=>.no (fun cx o=>v9w (u8g (h.es o))) fun r loc σ Q E=>id)
 (.no (fun cx o=>w7c) fun r loc σ Q E=>id)
 (.no (fun cx o=>w7a) fun r loc σ Q E=>id)
 (fun f args h hs=>.of (fun cx o=>w0a o (u8g (hs.es o))) (fun r loc σ Q E=>id) fun cx nm sc ex c env whole=>y8r (w4w c) fun _ _ _ _ _ _ z _=>z▸rfl)
 (fun e n args h hs=>.of (fun cx o=>v9v o (h cx o).1 (u8g (hs.es o))) (fun r loc σ Q E=>id) fun cx nm sc ex c env whole=>x2u (w4t c) fun _ _ _ _ _ z _=>z▸rfl)
 (fun elt ti one k e1 e2 conds h h1 h2 hs=>.no (fun cx o=>v9z (fun bn=>(h (cx.wb bn) (o.wb bn)).1) (h1 cx o).1 (h2 cx o).1 fun bn=>hs.ts (o.wb bn)) fun r loc σ Q E=>id)
 (fun p p' a b c ha hb hc cx o=>⟨fun _ _ _ _ _ _ _ _ _ _ _ _ _ _ _ _ q=>(show False from q).elim,v5m (ha cx o).1 (hb cx o).1 (hc cx o).1⟩)
 (fun e h=>.no (fun cx o=>w2k (h cx o).1) fun r loc σ Q E=>id)
 (fun ks es h=>.no (fun cx o=>w7b (h.es o)) fun r loc σ Q E=>id)
 (fun _ z=>nomatch z)
 (fun m ms h hs m' z=>Or.elim (List.mem_cons.mp z) (fun e=>e▸h) (hs m'))
 m
theorem sndE (m:ME) (cx:Cx T) (o:CSok cx CS):SndE cx CS m:=(sndM m cx o).1
theorem sndT (m:ME) (cx:Cx T) (o:CSok cx CS):SndT cx CS m:=(sndM m cx o).2
end
end Mine
end
section
open PySem PySem.W PyProof.Rows PySem.Builtin.ObjectAttr
set_option maxRecDepth 20000
namespace Mine
section
variable {T:Tab} {cx:Cx T} {A:Around} {fs:List Env} {r:Nat} {env:Env} {nm:Nm} {sc:Sc} {loc loc2:Loc} {own own1 own':Addr→Option Addr} {σ σ1:Hp} {h h0 h1 h2 h':Heap} {t:Nat} {X Y:Addr→Prop} {E:Value→Shared→Prop} {M:Model}
noncomputable def TrOn (own:Addr→Option Addr) (h:Heap) (a:Addr):Prop:=∃tb o,own tb=some a∧h.get? tb=some o∧o.cls=.type "traceback"
theorem TrOn.keep {a:Addr} (x:TrOn own h a) (e:OwnExt own own' h) (k:Keep fs own X h h') (nx:∀b,own b=some a→¬X b):TrOn own' h' a:=by
 refine u1c x fun tb o e1 e2 e3=>?_
 refine u0d (k.kls tb o a e1 (nx tb e1) e2) fun o' g c=>?_
 exact⟨tb,o',e.up _ _ e1,g,c.trans e3⟩
theorem v7x {a:Addr} {o:MObj} (e:σ a=some o):σ.put a o=σ:=by
 funext b
 unfold Hp.put
 by_cases z:b=a
 ·subst z;rw [if_pos rfl,e]
 ·rw [if_neg z]
theorem x0a (I:Inv cx fs own σ h) {a C tb:Addr} {l:List (Nat×MV)} {ot:Obj} {ts:Array Value} {x:Value} (hs:σ a=some (.exc C l)) (ho:own tb=some a) (ne:tb≠a) (g:h.get? tb=some ot) (d:ot.data=.fields ts) (sz:3<ts.size)
  (hc:ot.cls=.type "traceback"):Inv cx fs own σ (h.update tb (Obj.mapFields (·.setIfInBounds 3 x)))∧Keep fs own noX h (h.update tb (Obj.mapFields (·.setIfInBounds 3 x)))∧TrOn own (h.update tb (Obj.mapFields (·.setIfInBounds 3 x))) a:=by
 have d':=Obj.data_mapFields d (·.setIfInBounds 3 x)
 have g':=Heap.get?_update_self (Obj.mapFields (·.setIfInBounds 3 x)) g (Obj.isFreed_of_fields d')
 have c':(Obj.mapFields (·.setIfInBounds 3 x) ot).cls=ot.cls:=Obj.cls_mapFields _ _
 have oth:∀b,b≠tb→(h.update tb (Obj.mapFields (·.setIfInBounds 3 x))).get? b=h.get? b:=fun b nb=>Heap.get?_update_other _ _ (Ne.symm nb)
 refine u0a (I.objs a _ hs) fun oa zz1=>?_
 refine u1b zz1 fun od vs sl e tr r=>?_
 obtain⟨I',k⟩:=I.store (h':=h.update tb (Obj.mapFields (·.setIfInBounds 3 x))) (mo':=.exc C l) hs
  (fun b o e1 e2=>(oth b fun z=>by subst z;exact e2 ho).trans e1)
  (fun b o eb gg=>by
   by_cases z:b=tb
   ·subst z;rw [g]at gg;cases gg;exact⟨_,g',c'⟩
   ·exact⟨o,(oth b z).trans gg,rfl⟩)
  (fun tk=>⟨od,vs,sl,(oth a (Ne.symm ne)).trans e,by
   refine Or.elim tr (fun zz501=>?_) (fun zz502=>?_)
   ·obtain⟨tr,tn⟩:=zz501
    exact absurd hc (tn tb ot ho g)
   ·obtain⟨t',ot',ts',e1,e2,e3,e4,e5,e6,e7⟩:=zz502
    by_cases z:t'=tb
    ·subst z
     rw [g]at e4;cases e4
     exact .inr ⟨t',_,_,e1,ho,ne,g',d',by rw [Array.size_setIfInBounds];exact sz,c'.trans hc⟩
    ·exact .inr ⟨t',ot',ts',e1,e2,e3,(oth t' z).trans e4,e5,e6,e7⟩,by
   refine Or.elim r (fun r=>?_) (fun zz503=>?_)
   ·exact .inl r
   ·obtain⟨dx,es,n,e1,e2,e3,e4,r⟩:=zz503
    refine .inr ⟨dx,es,n,e1,e2,e3,(oth dx fun z=>?_).trans e4,r.tk tk⟩
    subst z;rw [g]at e4;cases e4;cases d⟩)
 rw [v7x hs]at I'
 exact⟨I',k,tb,_,ho,g',c'.trans hc⟩
theorem u1f (I:Inv cx fs own σ h) {a C:Addr} {l:List (Nat×MV)} {fr:Option Addr} (hs:σ a=some (.exc C l)) {Q:Unit→Shared→Prop}
  (k:∀h',Inv cx fs own σ h'→Keep fs own noX h h'→Q () (cx.mk' h' t)):wpAny M A (setFlight (.ref a) fr) Q E (cx.mk' h t):=by
 refine u0a (I.objs a _ hs) fun oa zz2=>?_
 refine u1b zz2 fun od vs sl e tr r=>?_
 unfold setFlight
 refine Or.elim tr (fun zz504=>?_) (fun zz505=>?_)
 ·obtain⟨tr,_⟩:=zz504
  refine wpAny_bind (wpAny_field (s:=cx.mk' h t) e rfl tr ?_)
  rw [if_neg (by decide)]
  exact wpAny_pure (k h I (.refl ..))
 ·obtain⟨tb,ot,ts,e1,e2,e3,e4,e5,e6,e7⟩:=zz505
  refine wpAny_bind (wpAny_field (s:=cx.mk' h t) e rfl e1 ?_)
  rw [if_pos (show(Value.ref tb !=Value.none)=true from by simp)]
  refine u2k (x0a (x:=(fr.elim .none fun f=>rawInt f)) I hs e2 e3 e4 e5 e6 e7) fun I' k' _=>?_
  exact wpAny_setField (s:=cx.mk' h t) e4 e5 e6 (k _ I' k')
theorem Inv.slots (I:Inv cx fs own σ h) (hs:Heap.SlotsOnly (fs.filterMap (·.frame)) h h'):Inv cx fs own σ h'∧Keep fs own noX h h':=by
 have fa:∀b,b ∈ fs.filterMap (·.frame)→u0o fs b:=fun b hb=>by
  refine u0d (List.mem_filterMap.mp hb) fun e he hf=>?_
  exact⟨e,he,hf⟩
 refine u2k hs fun _ hs1 hs2=>?_
 have same:∀b o,¬u0o fs b→h.get? b=some o→h'.get? b=some o:=fun b o nb e=>(hs1 b fun z=>nb (fa b z)).trans e
 have fo:∀b,u0o fs b→own b=none∧cx.base.get? b=none∧∃o es n,h.get? b=some o∧o.data=.dict es n:=fun b z=>by
  refine u0d z fun ev hm hf=>?_
  refine u2o (I.frames ev hm) fun L o es n f1 f2 f3 f4 f5 f7=>?_
  rw [hf]at f1;cases f1
  exact⟨f3,f2,o,es,n,f4,f5⟩
 obtain⟨I',_⟩:=I.buts (h':=h') (X:=u0o fs) (fun a x=>by
  refine u2k (fo a x) fun g1 g2 zz3=>?_
  refine u7o zz3 fun o es n g3 g4=>?_
  refine u0i (hs2 a o g3) fun sl g5=>?_
  exact⟨g1,g2,fun _=>⟨_,es,n,g5,g4⟩,fun ys m z=>by rw [g3]at z;cases z;cases g4⟩) same
 refine⟨I',fun a o e=>?_,fun a o e n _=>?_,fun a o x e _ g=>⟨o,same a o (fun z=>by rw [(fo a z).1]at e;cases e) g,rfl⟩⟩
 ·refine u0i (hs2 a o e) fun sl g=>?_
  exact⟨_,g⟩
 ·by_cases z:u0o fs a
  ·exact .inr ⟨z,hs2 a o e⟩
  ·exact .inl (same a o z e)
theorem Inv.funFrames (I:Inv cx fs own σ h):h.FunFrames cx.base fs:=by
 have:∀l:List Env,(∀e ∈ l,e ∈ fs)→h.FunFrames cx.base l:=fun l=>by
  induction l with
  |nil=>exact fun _=>trivial
  |cons e l ih=>
   intro hm
   refine u2o (I.frames e (hm e (by simp))) fun L o es n f1 f2 f3 f4 f5 f7=>?_
   exact⟨f7,⟨L,o,f1,f2,f4,fun vs z=>by rw [f5]at z;cases z⟩,ih fun e he=>hm e (by simp [he])⟩
 exact this fs fun _ h=>h
theorem u9k {outer:List Env} (hfr:A.frames=some (env::outer)) (I:Inv cx (env::outer) own σ h) {L a C:Addr} {l:List (Nat×MV)} {head:Value} {b:Bool} (hf:env.frame=some L) (hs:σ a=some (.exc C l)) {Q:Unit→Shared→Prop}
  (k:∀own' h',Inv cx (env::outer) own' σ h'→OwnExt own own' h→Keep (env::outer) own noX h h'→TrOn own' h' a→Q () (cx.mk' h' t)):
  wpAny M A (do setField (.ref a) 1 (←EntryCells.newEntry head (←frameOf env) .none (rawInt L) .none (←entryPlaceOf L b))) Q E (cx.mk' h t):=by
 refine wpAny_bind (wpAny_frameOf_fun (s:=cx.mk' h t) hfr I.funFrames hf fun h1 hsl=>?_)
 refine u0a (I.slots hsl) fun I1 k1=>?_
 refine wpAny_bind (wpAny_entryPlaceOf fun pl hpl=>?_)
 unfold EntryCells.newEntry newFields
 refine wpAny_bind (wpAny_newObj_type ?_ (hpl.sizeOk5 _ _ _ _ _))
 refine u0a (I1.objs a _ hs) fun oa zz4=>?_
 refine u1b zz4 fun od vs sl e tr r=>?_
 generalize hT:({cls:=.type "traceback",dict:=none,data:=.fields ([head,.ref L,.none,rawInt L,.none]++(if pl.isEmpty then List.replicate 6 Value.none else pl)).toArray}:Obj)=oT
 have e2:(h1.push oT).get? a=some ⟨.ref C,od,.fields vs,sl⟩:=Heap.get?_push_of_some _ e
 have sz:1<vs.size:=by
  refine Or.elim tr (fun zz506=>?_) (fun zz507=>?_)
  ·obtain⟨tr,_⟩:=zz506
   exact(Array.getElem?_eq_some_iff.mp tr).1
  ·obtain⟨_,_,_,tr,_⟩:=zz507
   exact(Array.getElem?_eq_some_iff.mp tr).1
 have eT:(h1.push oT).get? h1.objs.size=some oT:=by rw [←hT];exact Heap.get?_push_size h1 rfl
 have ne:a≠h1.objs.size:=Nat.ne_of_lt (Heap.lt_size e)
 refine wpAny_setField (s:=cx.mk' (h1.push oT) t) e2 rfl sz ?_
 have d3:=Obj.data_mapFields (o:=⟨.ref C,od,.fields vs,sl⟩) rfl (·.setIfInBounds 1 (Value.ref h1.objs.size))
 have g3:=Heap.get?_update_self (Obj.mapFields (·.setIfInBounds 1 (Value.ref h1.objs.size))) e2 (Obj.isFreed_of_fields d3)
 have oth:∀b o,b≠a→h1.get? b=some o→((h1.push oT).update a (Obj.mapFields (·.setIfInBounds 1 (Value.ref h1.objs.size)))).get? b=some o:=fun b o nb g=>by
  rw [Heap.get?_update_other _ _ (Ne.symm nb)];exact Heap.get?_push_of_some _ g
 have gT:((h1.push oT).update a (Obj.mapFields (·.setIfInBounds 1 (Value.ref h1.objs.size)))).get? h1.objs.size=some oT:=by rw [Heap.get?_update_other _ _ ne];exact eT
 have oTc:oT.cls=.type "traceback":=by rw [←hT]
 have oTd:∃ts,oT.data=.fields ts∧3<ts.size:=⟨_,by rw [←hT],by simp only [List.size_toArray,List.length_append,List.length_cons,List.length_nil];lia⟩
 refine u0d oTd fun ts oTd oTs=>?_
 refine u0a (v1c (a:=a) I1 (get?_size h1)) fun x1 x2=>?_
 have oT':u4m own h1.objs.size a h1.objs.size=some a:=by unfold u4m;rw [if_pos rfl]
 obtain⟨I2,k2⟩:=I1.upd (h':=(h1.push oT).update a (Obj.mapFields (·.setIfInBounds 1 (Value.ref h1.objs.size)))) (mo:=.exc C l) x1 x2 (fun b o e1 e2=>oth b o (fun z=>by subst z;exact e2 oa) e1)
  (fun b eb=>by
   by_cases z:b=h1.objs.size
   ·subst z;exact⟨u1r I1,_,gT,by rw [oTc];exact fun z=>w5z (by decide) z⟩
   ·unfold u4m at eb
    rw [if_neg z]at eb
    refine u0a (I1.ownd b a eb) fun z1 zz5=>?_
    refine u0d zz5 fun o g c=>?_
    by_cases z2:b=a
    ·subst z2;exact⟨z1,_,g3,by rw [Obj.cls_mapFields];exact w7i C⟩
    ·exact⟨z1,o,oth b o z2 g,c⟩)
  (fun b o eb g=>by
   by_cases z2:b=a
   ·subst z2;rw [e]at g;cases g;exact⟨_,g3,Obj.cls_mapFields _ _⟩
   ·exact⟨o,oth b o z2 g,rfl⟩) (x1.up _ _ oa)
  (fun tk=>⟨od,vs.setIfInBounds 1 (Value.ref h1.objs.size),sl,g3,.inr ⟨h1.objs.size,oT,ts,by simp [sz],oT',Ne.symm ne,gT,oTd,oTs,oTc⟩,by
   refine Or.elim r (fun r=>?_) (fun zz508=>?_)
   ·exact .inl r
   ·obtain⟨dx,es,n,e1,e2',e3,e4,r⟩:=zz508
    exact .inr ⟨dx,es,n,e1,x1.up _ _ e2',e3,oth dx _ e3 e4,r.tk tk⟩⟩)
 rw [v7x hs]at I2
 exact k _ _ I2 (OwnExt.trans (.refl own h) k1 x1) (k1.trans (.refl own h) k2) ⟨h1.objs.size,oT,oT',gT,oTc⟩
theorem u3v {outer:List Env} (hfr:A.frames=some (env::outer)) (I:Inv cx (env::outer) own σ h) {a C:Addr} {l:List (Nat×MV)} (hs:σ a=some (.exc C l)) {Q:Unit→Shared→Prop}
  (k:∀own' h',Inv cx (env::outer) own' σ h'→OwnExt own own' h→Keep (env::outer) own noX h h'→TrOn own' h' a→Q () (cx.mk' h' t)):wpAny M A (noteFrame (.ref a) env) Q E (cx.mk' h t):=by
 refine x2w (I.frames env (by simp)) fun L o es n f1 _=>?_
 refine u0a (I.objs a _ hs) fun oa zz6=>?_
 refine u1b zz6 fun od vs sl e tr r=>?_
 unfold noteFrame
 simp only [f1]
 refine Or.elim tr (fun zz509=>?_) (fun zz510=>?_)
 ·obtain⟨tr,_⟩:=zz509
  refine wpAny_bind (wpAny_field (s:=cx.mk' h t) e rfl tr ?_)
  rw [if_neg (by decide)]
  exact u9k hfr I f1 hs k
 ·obtain⟨tb,ot,ts,e1,e2,e3,e4,e5,e6,e7⟩:=zz510
  refine wpAny_bind (wpAny_field (s:=cx.mk' h t) e rfl e1 ?_)
  rw [if_pos (show(Value.ref tb !=Value.none)=true from by simp)]
  refine wpAny_bind (wpAny_field (s:=cx.mk' h t) e4 e5 (Array.getElem?_eq_getElem e6) ?_)
  by_cases q:(ts[3]==rawInt L)=true
  ·rw [if_pos q]
   exact wpAny_pure (k own h I (.refl ..) (.refl ..) ⟨tb,ot,e2,e4,e7⟩)
  ·rw [if_neg q]
   refine u2k (x0a (x:=.none) I hs e2 e3 e4 e5 e6 e7) fun I1 k1 _=>?_
   refine wpAny_bind (wpAny_setField (s:=cx.mk' h t) e4 e5 e6 ?_)
   exact u9k hfr I1 f1 hs fun own' h' I' x' k' tr=>k own' h' I' (OwnExt.trans (.refl own h) k1 x') (k1.trans (.refl own h) k') tr
theorem w1i (I:Inv cx fs own σ h) {a C:Addr} {l:List (Nat×MV)} (hs:σ a=some (.exc C l)) (tr:TrOn own h a) {what:String} {fr:Option Addr} {Q:Unit→Shared→Prop}
  (k:∀h',Inv cx fs own σ h'→Keep fs own noX h h'→Q () (cx.mk' h' t)):wpAny M A (do
   if(←field (.ref a) 1)==.none then unsupported what
   setFlight (.ref a) fr) Q E (cx.mk' h t):=by
 refine u0a (I.objs a _ hs) fun oa zz7=>?_
 refine u1b zz7 fun od vs sl e tr' r=>?_
 refine Or.elim tr' (fun zz511=>?_) (fun zz512=>?_)
 ·obtain⟨_,tn⟩:=zz511
  refine u1c tr fun tb o z1 z2 z3=>?_
  exact absurd z3 (tn tb o z1 z2)
 ·obtain⟨tb,ot,ts,e1,e2,e3,e4,e5,e6,e7⟩:=zz512
  refine wpAny_bind (wpAny_field (s:=cx.mk' h t) e rfl e1 ?_)
  rw [if_neg (show¬(Value.ref tb==Value.none)=true from by simp)]
  exact u1f I hs k
end
end Mine
end
section
open PySem PySem.W PyProof.Rows PySem.Builtin.ObjectAttr
set_option maxRecDepth 20000
namespace Mine
noncomputable def v1g (e:Expr):Bool:=exE e false (xListComp:=fun _ _ _=>true) (xSetComp:=true) (xDictComp:=true)
noncomputable def x3i (nm:Nm) (tg v:Expr):Bool:=Nat.beq (tagE tg) 5 && (Nat.beq (tagE v) 20 && (nm.lookup (strE tg)==some .local && (tg.pos.line==v.pos.line && !((u8q v).names.any fun(n,k)=>n==strE tg && (k==.local||k==.cell)))))
noncomputable def w4n (e:Expr):Bool:=exE e false (xList:=fun _=>true) (xTuple:=fun _=>true)
noncomputable def x9m (e:Expr):Bool:=exE e false (xSlice:=fun _ _ _=>true)
noncomputable def w9t (op:Operator):Bool:=op==.Add||op==.Sub||op==.BitXor||op==.RShift
noncomputable def v1q (nm:Nm) (sc:Sc):List Str→List Nat→Bool
 |[],[]=>true
 |x::xs,i::is=>sc.lookup x==some i && (nm.lookup x==some .local||nm.lookup x==some .cell) && v1q nm sc xs is
 |_,_=>false
noncomputable def tagS:Stmt→Nat
 |.Expr _ _=>1|.Continue _=>2|.Return _ _=>3|.Assign _ _ _=>4|.AugAssign _ _ _ _=>5|.If _ _ _ _=>6|.While _ _ _ _=>7|.For _ _ _ _ _=>8|.Raise _ _ _=>9|.Try _ _ _ _ _=>10|_=>0
noncomputable def PS:List (Stmt→Prop):=[fun _=>True,fun e=>∃v p,e=.Expr v p,fun e=>∃p,e=.Continue p,fun e=>∃o p,e=.Return o p,fun e=>∃ts v p,e=.Assign ts v p,fun e=>∃t o v p,e=.AugAssign t o v p,
 fun e=>∃t x y p,e=.If t x y p,fun e=>∃t x y p,e=.While t x y p,fun e=>∃t i x y p,e=.For t i x y p,fun e=>∃o o' p,e=.Raise o o' p,fun e=>∃x hs y f p,e=.Try x hs y f p]
noncomputable def PSat:Nat→List (Stmt→Prop)→Stmt→Prop
 |_,[],_=>True
 |0,p::_,e=>p e
 |n+1,_::l,e=>PSat n l e
theorem w2e (e:Stmt):PSat (tagS e) PS e:=by
 cases e with
 |Expr v p=>exact Exists.intro v (Exists.intro p rfl)
 |Continue p=>exact Exists.intro p rfl
 |Return v p=>exact Exists.intro v (Exists.intro p rfl)
 |Assign t v p=>exact Exists.intro t (Exists.intro v (Exists.intro p rfl))
 |AugAssign t o v p=>exact Exists.intro t (Exists.intro o (Exists.intro v (Exists.intro p rfl)))
 |If t x y p=>exact Exists.intro t (Exists.intro x (Exists.intro y (Exists.intro p rfl)))
 |While t x y p=>exact Exists.intro t (Exists.intro x (Exists.intro y (Exists.intro p rfl)))
 |For t i x y p=>exact Exists.intro t (Exists.intro i (Exists.intro x (Exists.intro y (Exists.intro p rfl))))
 |Raise o o' p=>exact Exists.intro o (Exists.intro o' (Exists.intro p rfl))
 |Try x hs y f p=>exact Exists.intro x (Exists.intro hs (Exists.intro y (Exists.intro f (Exists.intro p rfl))))
 |_=>exact trivial
noncomputable def dE0:Expr:=.Name "" ⟨0,0,0,0⟩
noncomputable def exS {α:Type} (e:Stmt) (d:α) (xFunctionDef:Arguments→List Stmt→Scope→α:=fun _ _ _=>d) (xClassDef:List Stmt→α:=fun _=>d) (xReturn:Option Expr→α:=fun _=>d) (xAssign:List Expr→Expr→α:=fun _ _=>d) (xAugAssign:Expr→Operator→Expr→α:=fun _ _ _=>d) (xFor:Expr→Expr→List Stmt→List Stmt→α:=fun _ _ _ _=>d) (xWhile:Expr→List Stmt→List Stmt→α:=fun _ _ _=>d) (xIf:Expr→List Stmt→List Stmt→α:=fun _ _ _=>d) (xRaise:Option Expr→Option Expr→α:=fun _ _=>d) (xTry:List Stmt→List ExceptHandler→List Stmt→List Stmt→α:=fun _ _ _ _=>d) (xExpr:Expr→α:=fun _=>d):α:=@Stmt.casesOn (fun _=>α) e (fun _ a1 a2 _ _ _ a6 _ _ _=>xFunctionDef a1 a2 a6) (fun _ _ _ _ _ _ _ _ _ _=>d) (fun _ _ _ a3 _ _ _ _ _ _ _=>xClassDef a3) (fun a0 _=>xReturn a0) (fun _ _=>d) (fun a0 a1 _=>xAssign a0 a1) (fun _ _ _ _ _ _ _=>d) (fun a0 a1 a2 _=>xAugAssign a0 a1 a2) (fun _ _ _ _ _=>d) (fun a0 a1 a2 a3 _=>xFor a0 a1 a2 a3) (fun _ _ _ _ _=>d) (fun a0 a1 a2 _=>xWhile a0 a1 a2) (fun a0 a1 a2 _=>xIf a0 a1 a2) (fun _ _ _=>d) (fun _ _ _=>d) (fun _ _ _=>d) (fun a0 a1 _=>xRaise a0 a1) (fun a0 a1 a2 a3 _=>xTry a0 a1 a2 a3) (fun _ _ _ _ _=>d) (fun _ _ _=>d) (fun _ _=>d) (fun _ _ _ _=>d) (fun _ _=>d) (fun _ _=>d) (fun a0 _=>xExpr a0) (fun _=>d) (fun _=>d) (fun _=>d)
noncomputable def valS (e:Stmt):Expr:=exS e dE0 (xAssign:=fun _ v=>v) (xAugAssign:=fun _ _ v=>v) (xFor:=fun _ i _ _=>i) (xWhile:=fun t _ _=>t) (xIf:=fun t _ _=>t) (xExpr:=fun x=>x)
noncomputable def optS (e:Stmt):Option Expr:=exS e none (xReturn:=fun x=>x) (xRaise:=fun o _=>o)
noncomputable def x8v (e:Stmt):Option Expr:=exS e none (xRaise:=fun _ o=>o)
noncomputable def tgsS (e:Stmt):List Expr:=exS e [] (xAssign:=fun ts _=>ts) (xAugAssign:=fun t _ _=>[t]) (xFor:=fun t _ _ _=>[t])
noncomputable def w6i (e:Stmt):List Stmt:=exS e [] (xFor:=fun _ _ x _=>x) (xWhile:=fun _ x _=>x) (xIf:=fun _ x _=>x) (xTry:=fun x _ _ _=>x)
noncomputable def w5p (e:Stmt):List Stmt:=exS e [] (xFor:=fun _ _ _ x=>x) (xWhile:=fun _ _ x=>x) (xIf:=fun _ _ x=>x) (xTry:=fun _ _ x _=>x)
noncomputable def finS (e:Stmt):List Stmt:=exS e [] (xTry:=fun _ _ _ x=>x)
noncomputable def hsS (e:Stmt):List ExceptHandler:=exS e [] (xTry:=fun _ x _ _=>x)
noncomputable def opS (e:Stmt):Operator:=exS e .Add (xAugAssign:=fun _ o _=>o)
section
variable (K:Frag) (sy:List Str) (nm:Nm) (sc:Sc)
noncomputable def chkT:MT→Expr→Bool
 |.nm i,e=>Nat.beq (tagE e) 5 && (sc.lookup (strE e)==some i && (nm.lookup (strE e)==some .local||nm.lookup (strE e)==some .cell))
 |.attr m n,e=>Nat.beq (tagE e) 6 && (sy[n]?==some (strE e) && chkE K sy nm sc m (sub0 e))
 |.item a i,e=>Nat.beq (tagE e) 7 && (chkE K sy nm sc a (sub0 e) && chkE K sy nm sc i (sub1 e))
 |.tup is,e=>Nat.beq (tagE e) 16 && (match u0m e with|some (tn,false)=>v1q nm sc tn is|_=>false)
noncomputable def asgB (t:MT) (m:ME) (tg v:Expr):Bool:=chkE K sy nm sc m v && chkT K sy nm sc t tg && (!v1g v||(x3i nm tg v||!Nat.beq (tagE tg) 5)) && (!Nat.beq (tagE tg) 16||!w4n v)
noncomputable def augT (t:MT) (tg:Expr):Bool:=match t with|.nm _=>Nat.beq (tagE tg) 5 && v1x (strE tg)|.tup _=>false|_=>true
noncomputable def forT (k:SrcK) (t:MT) (tg:Expr):Bool:=match t with
 |.nm i=>Nat.beq (tagE tg) 5 && (v1q nm sc [strE tg] [i] && !isZ k)
 |.tup is=>(match u0m tg with|some (tn,false)=>v1q nm sc tn is|_=>false)
 |_=>false
noncomputable def isSm (f:Expr→Bool) (o:Option Expr):Bool:=match o with|some v=>f v|none=>false
noncomputable def nil {α:Type} (l:List α):Bool:=match l with|[]=>true|_::_=>false
noncomputable def hdl (f:List Stmt→Bool) (ty:ME) (i:Nat) (h:ExceptHandler):Bool:=match h with
 |⟨t,n,b,_⟩=>match n with
  |some n=>isSm (chkE K sy nm sc ty) t && !nil b && f b && sc.lookup n==some i && nm.lookup n==some .local
  |none=>false
mutual
noncomputable def chkS:MS→Stmt→Bool
 |.expr m,st=>Nat.beq (tagS st) 1 && (chkE K sy nm sc m (valS st) && !v1g (valS st))
 |.cont,st=>Nat.beq (tagS st) 2 && true
 |.ret m,st=>Nat.beq (tagS st) 3 && isSm (chkE K sy nm sc m) (optS st)
 |.asg t m,st=>Nat.beq (tagS st) 4 && (oneL (tgsS st) && asgB K sy nm sc t m (v2d (tgsS st) dE0) (valS st))
 |.aug t op m,st=>Nat.beq (tagS st) 5 && (op==opS st && w9t op && chkE K sy nm sc m (valS st) && chkT K sy nm sc t (v2d (tgsS st) dE0) && augT t (v2d (tgsS st) dE0))
 |.ite c a b,st=>Nat.beq (tagS st) 6 && (chkE K sy nm sc c (valS st) && u3o a (w6i st) && u3o b (w5p st))
 |.whl c b,st=>Nat.beq (tagS st) 7 && (nil (w5p st) && (chkE K sy nm sc c (valS st) && u3o b (w6i st)))
 |.for t k e1 e2 b,st=>Nat.beq (tagS st) 8 && (nil (w5p st) && (srcB K sy nm sc k e1 e2 (valS st) && !v6o (valS st) && u3o b (w6i st) && forT nm sc k t (v2d (tgsS st) dE0)))
 |.rse m,st=>Nat.beq (tagS st) 9 && ((x8v st).isNone && isSm (chkE K sy nm sc m) (optS st))
 |.tryF b f,st=>Nat.beq (tagS st) 10 && (nil (hsS st) && nil (w5p st) && !nil (finS st) && (u3o b (w6i st) && u3o f (finS st)))
 |.tryX b ty i hb,st=>Nat.beq (tagS st) 10 && (nil (w5p st) && nil (finS st) && (u3o b (w6i st) && (match hsS st with|h::hs=>nil hs && hdl K sy nm sc (u3o hb) ty i h|[]=>false)))
noncomputable def u3o:List MS→List Stmt→Bool
 |[],sts=>match sts with|[]=>true|_::_=>false
 |m::ms,sts=>match sts with|st::rest=>chkS m st && u3o ms rest|[]=>false
end
end
section
variable {K:Frag} {sy:List Str} {nm:Nm} {sc:Sc} {st:Stmt}
theorem nil_inv {α:Type} {l:List α} (c:nil l=true):l=[]:=by
 cases l with
 |nil=>rfl
 |cons _ _=>exact(Bool.false_ne_true c).elim
theorem cons_inv {α:Type} {l:List α} (c:(!nil l)=true):∃x y,l=x::y:=by
 cases l with
 |nil=>exact(Bool.false_ne_true c).elim
 |cons x y=>exact⟨x,y,rfl⟩
theorem v2a {f:Expr→Bool} {o:Option Expr} (c:isSm f o=true):∃v,o=some v∧f v=true:=by
 cases o with
 |none=>exact(Bool.false_ne_true c).elim
 |some v=>exact⟨v,rfl,c⟩
theorem and2 {a b:Bool} (c:(a && b)=true):a=true∧b=true:=Bool.and_eq_true_iff.mp c
theorem tgs (n:Nat) {x:Bool} (c:(Nat.beq (tagS st) n && x)=true):PSat n PS st∧x=true:=
 ⟨Nat.eq_of_beq_eq_true (and2 c).1▸w2e st,(and2 c).2⟩
theorem x6w {i:Nat} {e:Expr} (c:chkT K sy nm sc (.nm i) e=true):∃x p,e=.Name x p∧(sc.lookup x==some i && (nm.lookup x==some .local||nm.lookup x==some .cell))=true:=by
 refine u0a (tgE 5 c) fun zz1 c=>?_
 refine u1j zz1 fun x p zz501=>?_
 subst zz501
 exact⟨x,p,rfl,c⟩
theorem w4s {m:ME} {n:Nat} {e:Expr} (c:chkT K sy nm sc (.attr m n) e=true):∃o a p,e=.Attribute o a p∧(sy[n]?==some a && chkE K sy nm sc m o)=true:=by
 refine u0a (tgE 6 c) fun zz2 c=>?_
 refine u2e zz2 fun x a p zz502=>?_
 subst zz502
 exact⟨x,a,p,rfl,c⟩
theorem w4r {m i:ME} {e:Expr} (c:chkT K sy nm sc (.item m i) e=true):∃o s p,e=.Subscript o s p∧(chkE K sy nm sc m o && chkE K sy nm sc i s)=true:=by
 refine u0a (tgE 7 c) fun zz3 c=>?_
 refine u2e zz3 fun x a p zz503=>?_
 subst zz503
 exact⟨x,a,p,rfl,c⟩
theorem u8x {is:List Nat} {e:Expr} (c:(match u0m e with|some (tn,false)=>v1q nm sc tn is|_=>false)=true):∃tn,u0m e=some (tn,false)∧v1q nm sc tn is=true:=by
 cases h:u0m e with
 |none=>rw [h]at c;exact(Bool.false_ne_true c).elim
 |some o=>
  obtain⟨tn,b⟩:=o
  rw [h]at c
  cases b with
  |false=>exact⟨tn,rfl,c⟩
  |true=>exact(Bool.false_ne_true c).elim
theorem x6v {is:List Nat} {e:Expr} (c:chkT K sy nm sc (.tup is) e=true):∃es x p tn,e=.Tuple es x p∧u0m (.Tuple es x p)=some (tn,false)∧v1q nm sc tn is=true:=by
 refine u0a (tgE 16 c) fun zz4 c=>?_
 refine u2e zz4 fun es x p zz504=>?_
 subst zz504
 refine u0i (u8x c) fun tn c=>?_
 exact⟨es,x,p,tn,rfl,c⟩
theorem x7d {t:MT} {m:ME} (c:chkS K sy nm sc (.asg t m) st=true):∃tg v pos,st=.Assign [tg] v pos∧(chkE K sy nm sc m v && chkT K sy nm sc t tg && (!v1g v||(x3i nm tg v||!Nat.beq (tagE tg) 5)) && (!Nat.beq (tagE tg) 16||!w4n v))=true:=by
 refine u0a (tgs 4 c) fun zz5 c=>?_
 refine u2e zz5 fun ts v p zz505=>?_
 subst zz505
 refine u0a (and2 c) fun c1 c=>?_
 refine u0i (v1w c1) fun tg e=>?_
 replace e:ts=_:=e
 subst e
 exact⟨tg,v,p,rfl,c⟩
theorem x7c {t:MT} {op:Operator} {m:ME} (c:chkS K sy nm sc (.aug t op m) st=true):∃tg o v pos,st=.AugAssign tg o v pos∧(op==o && w9t op && chkE K sy nm sc m v && chkT K sy nm sc t tg && augT t tg)=true:=by
 refine u0a (tgs 5 c) fun zz6 c=>?_
 refine v4t zz6 fun tg o v p zz506=>?_
 subst zz506
 exact⟨tg,o,v,p,rfl,c⟩
theorem x6x {m:ME} {b:List MS} (c:chkS K sy nm sc (.whl m b) st=true):∃t x p,st=.While t x [] p∧(chkE K sy nm sc m t && u3o K sy nm sc b x)=true:=by
 refine u0a (tgs 7 c) fun zz7 c=>?_
 refine v4t zz7 fun t x y p zz507=>?_
 subst zz507
 refine u0a (and2 c) fun c1 c=>?_
 obtain rfl:y=[]:=nil_inv c1
 exact⟨t,x,p,rfl,c⟩
theorem x7b {t:MT} {k:SrcK} {e1 e2:ME} {b:List MS} (c:chkS K sy nm sc (.for t k e1 e2 b) st=true):∃tg iter x p,st=.For tg iter x [] p∧(srcB K sy nm sc k e1 e2 iter && !v6o iter && u3o K sy nm sc b x && forT nm sc k t tg)=true:=by
 refine u0a (tgs 8 c) fun zz8 c=>?_
 refine x2v zz8 fun t i x y p zz508=>?_
 subst zz508
 refine u0a (and2 c) fun c1 c=>?_
 obtain rfl:y=[]:=nil_inv c1
 exact⟨t,i,x,p,rfl,c⟩
theorem x6y {m:ME} (c:chkS K sy nm sc (.rse m) st=true):∃v p,st=.Raise (some v) none p∧chkE K sy nm sc m v=true:=by
 refine u0a (tgs 9 c) fun zz9 c=>?_
 refine u2e zz9 fun o o' p zz509=>?_
 subst zz509
 refine u0a (and2 c) fun c1 c=>?_
 obtain rfl:o'=none:=Option.isNone_iff_eq_none.mp c1
 refine u0d (v2a c) fun v e c=>?_
 replace e:o=_:=e
 subst e
 exact⟨v,p,rfl,c⟩
theorem x2d {b f:List MS} (c:chkS K sy nm sc (.tryF b f) st=true):∃x f0 fr p,st=.Try x [] [] (f0::fr) p∧(u3o K sy nm sc b x && u3o K sy nm sc f (f0::fr))=true:=by
 refine u0a (tgs 10 c) fun zz10 c=>?_
 refine x2v zz10 fun x hs y fi p zz510=>?_
 subst zz510
 refine u0a (and2 c) fun c1 c=>?_
 refine u0a (and2 c1) fun c1 c3=>?_
 refine u0a (and2 c1) fun c1 c2=>?_
 obtain rfl:hs=[]:=nil_inv c1
 obtain rfl:y=[]:=nil_inv c2
 refine u1j (cons_inv c3) fun f0 fr e=>?_
 replace e:fi=_:=e
 subst e
 exact⟨x,f0,fr,p,rfl,c⟩
theorem x2l {f:List Stmt→Bool} {ty:ME} {i:Nat} {h:ExceptHandler} (c:hdl K sy nm sc f ty i h=true):∃t n h0 hr p,h=.ExceptHandler (some t) (some n) (h0::hr) p∧chkE K sy nm sc ty t=true∧f (h0::hr)=true∧(sc.lookup n==some i)=true∧(nm.lookup n==some .local)=true:=by
 obtain⟨t,n,b,p⟩:=h
 cases n with
 |none=>exact(Bool.false_ne_true c).elim
 |some n=>
  refine u0a (and2 c) fun c c5=>?_
  refine u0a (and2 c) fun c c4=>?_
  refine u0a (and2 c) fun c c3=>?_
  refine u0a (and2 c) fun c1 c2=>?_
  refine u0d (v2a c1) fun t zz11 c1=>?_
  subst zz11
  refine u1j (cons_inv c2) fun h0 hr zz12=>?_
  subst zz12
  exact⟨t,n,h0,hr,p,rfl,c1,c3,c4,c5⟩
theorem x2c {b:List MS} {ty:ME} {i:Nat} {hb:List MS} (c:chkS K sy nm sc (.tryX b ty i hb) st=true):∃x t n h0 hr p q,st=.Try x [.ExceptHandler (some t) (some n) (h0::hr) p] [] [] q∧u3o K sy nm sc b x=true∧chkE K sy nm sc ty t=true∧u3o K sy nm sc hb (h0::hr)=true∧(sc.lookup n==some i)=true∧(nm.lookup n==some .local)=true:=by
 refine u0a (tgs 10 c) fun zz13 c=>?_
 refine x2v zz13 fun x hs y fi p zz511=>?_
 subst zz511
 refine u0a (and2 c) fun c1 c=>?_
 refine u0a (and2 c1) fun c1 c2=>?_
 obtain rfl:y=[]:=nil_inv c1
 obtain rfl:fi=[]:=nil_inv c2
 refine u0a (and2 c) fun c1 c=>?_
 cases hs with
 |nil=>exact(Bool.false_ne_true c).elim
 |cons eh hs=>
  refine u0a (and2 c) fun c2 c=>?_
  obtain rfl:hs=[]:=nil_inv c2
  refine x2u (x2l c) fun t n h0 hr q zz14 d=>?_
  subst zz14
  exact⟨x,t,n,h0,hr,q,p,rfl,c1,d⟩
theorem x2e {m:ME} (c:chkS K sy nm sc (.expr m) st=true):∃v p,st=.Expr v p∧(chkE K sy nm sc m v && !v1g v)=true:=by
 refine u0a (tgs 1 c) fun zz15 c=>?_
 refine u1j zz15 fun v p zz512=>?_
 subst zz512
 exact⟨v,p,rfl,c⟩
theorem x2f (c:chkS K sy nm sc .cont st=true):∃p,st=.Continue p:=(tgs 2 c).1
theorem x6z {m:ME} (c:chkS K sy nm sc (.ret m) st=true):∃v p,st=.Return (some v) p∧chkE K sy nm sc m v=true:=by
 refine u0a (tgs 3 c) fun zz16 c=>?_
 refine u1j zz16 fun o p zz513=>?_
 subst zz513
 refine u0d (v2a c) fun v e c=>?_
 replace e:o=_:=e
 subst e
 exact⟨v,p,rfl,c⟩
theorem x7a {m:ME} {a b:List MS} (c:chkS K sy nm sc (.ite m a b) st=true):∃t x y p,st=.If t x y p∧(chkE K sy nm sc m t && u3o K sy nm sc a x && u3o K sy nm sc b y)=true:=by
 refine u0a (tgs 6 c) fun zz17 c=>?_
 refine v4t zz17 fun t x y p zz514=>?_
 subst zz514
 exact⟨t,x,y,p,rfl,c⟩
end
section
variable {T:Tab} (cx:Cx T)
inductive SPst {α:Type} (fs:List Env) (env:Env) (sc:Sc) (own:Addr→Option Addr) (h:Heap) (P:α→Loc→Hp→Heap→Prop) (v:α) (s':Shared):Prop where
 |mk (h':Heap) (t':Nat) (own':Addr→Option Addr) (σ':Hp) (loc':Loc) (e:s'=cx.mk' h' t') (I:Inv cx fs own' σ' h') (x:OwnExt own own' h) (k:Keep fs own (u2f env sc) h h') (R:ERel cx env sc loc' own' h') (p:P v loc' σ' h')
noncomputable def u3f (Q:Out→Loc→Hp→Prop) (f:Flow) (loc:Loc) (σ:Hp) (h:Heap):Prop:=match f with
 |.next=>Q .next loc σ
 |.cont=>Q .cont loc σ
 |.brk=>Q .brk loc σ
 |.ret v=>VQ cx (fun m σ1=>Q (.ret m) loc σ1) v σ h
inductive ExQ (E:MV→Loc→Hp→Prop) (e:Value) (loc:Loc) (σ:Hp) (h:Heap):Prop where
 |mk (a C:Addr) (fs:List (Nat×MV)) (ea:e=.ref a) (hs:σ a=some (.exc C fs)) (q:E (.ref a) loc σ)
noncomputable def LocQ {α:Type} (Q:Loc→Hp→Prop) (_:α) (loc:Loc) (σ:Hp) (_:Heap):Prop:=Q loc σ
noncomputable def SndS (CS:u1n) (s:MS):Prop:=∀nm sc st,chkS cx.K T.sym nm sc s st=true→∀A outer r env loc own σ h t Q E,Here cx A (env::outer) r env nm sc loc own σ h→swp T CS r s loc σ Q E→
 wpAny (model cx.prog cx.w) A (exec st env) (SPst cx (env::outer) env sc own h (u3f cx Q)) (SPst cx (env::outer) env sc own h (ExQ E)) (cx.mk' h t)
noncomputable def u8e (CS:u1n) (ss:List MS):Prop:=∀nm sc sts,u3o cx.K T.sym nm sc ss sts=true→∀A outer r env loc own σ h t Q E,Here cx A (env::outer) r env nm sc loc own σ h→swps T CS r ss loc σ Q E→
 wpAny (model cx.prog cx.w) A (execs sts env) (SPst cx (env::outer) env sc own h (u3f cx Q)) (SPst cx (env::outer) env sc own h (ExQ E)) (cx.mk' h t)
end
section
variable {T:Tab} {cx:Cx T} {CS:u1n} {A:Around} {fs outer:List Env} {r:Nat} {env:Env} {nm:Nm} {sc:Sc} {loc loc2:Loc} {own own1 own':Addr→Option Addr} {σ σ1:Hp} {h h0 h1 h2 h':Heap} {t:Nat} {X Y:Addr→Prop} {M:Model}
variable {α β:Type} {P:α→Loc→Hp→Heap→Prop} {v:α} {s s':Shared}
theorem SPst.up (x:OwnExt own own1 h) (k:Keep fs own (u2f env sc) h h1) (p:SPst cx fs env sc own1 h1 P v s'):SPst cx fs env sc own h P v s':=by
 obtain⟨h',t',own',σ',loc',e,I,x',k',R,q⟩:=p
 exact⟨h',t',own',σ',loc',e,I,x.trans k x',k.trans x k',R,q⟩
theorem Keep.wide (k:Keep fs own noX h h1):Keep fs own X h h1:=k.mono fun _ z=>z.elim
theorem SPst.here (I:Inv cx fs own σ h) (R:ERel cx env sc loc own h) (q:P v loc σ h):SPst cx fs env sc own h P v (cx.mk' h t):=⟨h,t,own,σ,loc,rfl,I,.refl ..,.refl ..,R,q⟩
theorem SPst.imp {P':α→Loc→Hp→Heap→Prop} (f:∀v loc σ h,P v loc σ h→P' v loc σ h) (p:SPst cx fs env sc own h P v s'):SPst cx fs env sc own h P' v s':=by
 obtain⟨h',t',own',σ',loc',e,I,x',k',R,q⟩:=p
 exact⟨h',t',own',σ',loc',e,I,x',k',R,f _ _ _ _ q⟩
theorem VQ.re {bn:Addr→Prop} (s:∀a,cx.ban a→bn a) {Q:MV→Hp→Prop} {v:Value} (q:VQ (cx.wb bn) Q v σ h):VQ cx Q v σ h:=by
 obtain⟨m,r,q⟩:=q
 exact⟨m,VRel.re (b:=bn) (b':=cx.ban) (fun a ys n z _ y=>z (s a y)) r,q⟩
theorem u3f.re {bn:Addr→Prop} (s:∀a,cx.ban a→bn a) {Q:Out→Loc→Hp→Prop} {f:Flow} (q:u3f (cx.wb bn) Q f loc σ h):u3f cx Q f loc σ h:=by
 cases f with
 |ret v=>exact VQ.re s q
 |_=>exact q
theorem SPst.re {bn:Addr→Prop} (s:∀a,cx.ban a→bn a) {P':α→Loc→Hp→Heap→Prop} (f:∀v loc σ h,P v loc σ h→P' v loc σ h) (p:SPst (cx.wb bn) fs env sc own h P v s'):SPst cx fs env sc own h P' v s':=by
 obtain⟨h',t',own',σ',loc',e,I,x',k',R,q⟩:=p
 exact⟨h',t',own',σ',loc',e,Inv.re (cx:=cx.wb bn) (bn:=cx.ban) I (fun a ys n z _ y=>z (s a y)) (fun a z=>I.bans a (s a z)),x',k',ERel.re (cx:=cx.wb bn) (bn:=cx.ban) (fun a ys n z _ y=>z (s a y)) R,f _ _ _ _ q⟩
theorem SPst.flow {Q:Out→Loc→Hp→Prop} {u:Unit} (p:SPst cx fs env sc own h (LocQ fun l σ1=>Q .next l σ1) u s'):SPst cx fs env sc own h (u3f cx Q) .next s':=by
 obtain⟨h',t',own',σ',loc',e,I,x',k',R,q⟩:=p
 exact⟨h',t',own',σ',loc',e,I,x',k',R,q⟩
theorem v4u (H:Here cx A fs r env nm sc loc own σ h) {E:MV→Loc→Hp→Prop} {e:Value} (p:Pst cx fs noX own h (EQ fun x σ1=>E x loc σ1) e s'):SPst cx fs env sc own h (ExQ E) e s':=by
 obtain⟨h',t',own',σ',z,I,x,k,a,C,fs',ea,hs,q⟩:=p
 exact⟨h',t',own',σ',loc,z,I,x,k.wide,H.rel.keep x k (H.inv.tk0 k),a,C,fs',ea,hs,q⟩
theorem u8a {P:α→Hp→Heap→Prop} {c:Sem α} {E:MV→Loc→Hp→Prop} {R:α→Shared→Prop} (H:Here cx A fs r env nm sc loc own σ h)
  (W:wpAny (model cx.prog cx.w) A c (Pst cx fs noX own h P) (Pst cx fs noX own h (EQ fun x σ1=>E x loc σ1)) s)
  (f:∀v own1 σ1 h1 t1,Here cx A fs r env nm sc loc own1 σ1 h1→OwnExt own own1 h→Keep fs own noX h h1→TK cx.sy h h1→P v σ1 h1→R v (cx.mk' h1 t1)):
  wpAny (model cx.prog cx.w) A c R (SPst cx fs env sc own h (ExQ E)) s:=
 u0e W (fun _ _ e=>v4u H e) fun v own1 σ1 h1 t1 I x k p=>f v own1 σ1 h1 t1 (H.go I x k) x k (H.inv.tk0 k) p
theorem x1k {c:Sem β} {P':β→Loc→Hp→Heap→Prop} {E:MV→Loc→Hp→Prop} (x:OwnExt own own1 h) (k:Keep fs own (u2f env sc) h h1)
  (W:wpAny M A c (SPst cx fs env sc own1 h1 P') (SPst cx fs env sc own1 h1 (ExQ E)) s):wpAny M A c (SPst cx fs env sc own h P') (SPst cx fs env sc own h (ExQ E)) s:=
 wpAny_mono W (fun _ _ q=>q.up x k) fun _ _ q=>q.up x k
theorem v0e (S:EStat env nm):interactive env=false:=by
 unfold interactive;rw [S.kind];rfl
theorem v7s {v:Expr} (hc:v1g v=false) (tg:Option Expr) (l:Nat):swapsWith v tg l env=pure false:=by
 cases v<;>first|rfl|cases hc
theorem v5t {m:ME} (s1:SndE cx CS m):SndS cx CS (.expr m):=fun nm sc st c A outer r env loc own σ h t Q E H q=>by
 replace c:=x2e c;obtain⟨v,pos,rfl,c⟩:=c
 simp only [Bool.and_eq_true,Bool.not_eq_true']at c
 refine wpAny_Expr_any ?_ (v0e H.stat) (v7s c.2 _ _)
 refine u8a H (s1 nm sc v c.1 A _ r env loc own σ h t _ _ H q) fun u own1 σ1 h1 t1 H1 x k tk p=>?_
 obtain⟨m,_,p⟩:=p
 exact SPst.up x k.wide (SPst.here H1.inv H1.rel p)
theorem v5u:SndS cx CS .cont:=fun nm sc st c A outer r env loc own σ h t Q E H q=>by
 replace c:=x2f c;refine u0i c fun _ zz19=>?_;subst zz19
 exact wpAny_Continue (SPst.here H.inv H.rel (P:=u3f cx Q) q)
theorem v9l {m:ME} (s1:SndE cx CS m):SndS cx CS (.ret m):=fun nm sc st c A outer r env loc own σ h t Q E H q=>by
 replace c:=x6z c;obtain⟨v,pos,rfl,c⟩:=c
 refine wpAny_Return_some ?_
 refine u8a H (s1 nm sc v c A _ r env loc own σ h t _ _ H q) fun u own1 σ1 h1 t1 H1 x k tk p=>?_
 exact SPst.up x k.wide (SPst.here H1.inv H1.rel p)
theorem v9n {m:ME} {a b:List MS} (sT:SndT cx CS m) (sa:u8e cx CS a) (sb:u8e cx CS b):SndS cx CS (.ite m a b):=fun nm sc st c A outer r env loc own σ h t Q E H q=>by
 replace c:=x7a c;obtain⟨e,y,z,pos,rfl,c⟩:=c
 simp only [Bool.and_eq_true]at c
 refine wpAny_If ?_
 refine u8a H (sT nm sc e c.1.1 A _ r env loc own σ h t _ _ H q) fun b own1 σ1 h1 t1 H1 x k tk p=>?_
 have p:(if b then swps T CS r _ loc σ1 Q E else swps T CS r _ loc σ1 Q E):=p
 cases b with
 |true=>exact x1k x k.wide (sa nm sc y c.1.2 A outer r env loc own1 σ1 h1 t1 Q E H1 p)
 |false=>exact x1k x k.wide (sb nm sc z c.2 A outer r env loc own1 σ1 h1 t1 Q E H1 p)
theorem v9m:u8e cx CS []:=fun nm sc sts c A outer r env loc own σ h t Q E H q=>by
 cases sts with
 |nil=>exact wpAny_execs_nil (SPst.here H.inv H.rel (P:=u3f cx Q) q)
 |cons _ _=>exact(Bool.false_ne_true c).elim
theorem v5v {m:MS} {ms:List MS} (s1:SndS cx CS m) (s2:u8e cx CS ms):u8e cx CS (m::ms):=fun nm sc sts c A outer r env loc own σ h t Q E H q=>by
 cases sts with
 |nil=>exact(Bool.false_ne_true c).elim
 |cons st rest=>
  replace c:=Bool.and_eq_true_iff.mp (show(chkS cx.K T.sym nm sc m st && u3o cx.K T.sym nm sc ms rest)=true from c)
  refine wpAny_execs_cons ?_
  refine wpAny_mono (s1 nm sc st c.1 A outer r env loc own σ h t _ E H q) (fun f s' p=>?_) fun _ _ e=>e
  obtain⟨h',t',own',σ',loc',rfl,I,x,k,R,p⟩:=p
  cases f with
  |next=>exact x1k x k (s2 nm sc rest c.2 A outer r env loc' own' σ' h' t' Q E ⟨H.around,H.stat,I,R⟩ p)
  |cont=>exact⟨h',t',own',σ',loc',rfl,I,x,k,R,p⟩
  |brk=>exact⟨h',t',own',σ',loc',rfl,I,x,k,R,p⟩
  |ret v=>exact⟨h',t',own',σ',loc',rfl,I,x,k,R,p⟩
theorem v1p {tn:List Str} {ti:List Nat} (c:v1q nm sc tn ti=true):u4z nm sc tn ti:=by
 induction tn generalizing ti with
 |nil=>cases ti with
  |nil=>trivial
  |cons _ _=>cases c
 |cons x xs ih=>cases ti with
  |nil=>cases c
  |cons i is=>
   replace c:(sc.lookup x==some i && (nm.lookup x==some .local||nm.lookup x==some .cell) && v1q nm sc xs is)=true:=c
   simp only [Bool.and_eq_true,Bool.or_eq_true,beq_iff_eq]at c
   exact⟨⟨c.1.1,c.1.2⟩,ih c.2⟩
theorem u4z.scs {tn:List Str} {ti:List Nat} (c:u4z nm sc tn ti) (y:Str) (h:y ∈ tn):∃i,sc.lookup y=some i:=by
 induction tn generalizing ti with
 |nil=>cases h
 |cons x xs ih=>cases ti with
  |nil=>exact c.elim
  |cons i is=>exact(List.mem_cons.mp h).elim (fun z=>⟨i,z▸c.1.1⟩) (ih c.2)
theorem w6r {tm:MT} {tg:Expr} (se:∀e,SndE cx CS e) (c:chkT cx.K T.sym nm sc tm tg=true) {m:MV} {v:Value} (H:Here cx A fs r env nm sc loc own σ h) (rv:VRel cx.sy h m v) {K:Loc→Hp→Prop} {E:MV→Loc→Hp→Prop}
  (q:asgP T CS r tm m loc σ K fun x σ2=>E x loc σ2):wpAny (model cx.prog cx.w) A (assign tg env v) (SPst cx fs env sc own h (LocQ K)) (SPst cx fs env sc own h (ExQ E)) (cx.mk' h t):=by
 cases tm with
 |nm i=>
  replace c:=x6w c;obtain⟨x,p,rfl,c⟩:=c
  simp only [Bool.and_eq_true,Bool.or_eq_true,beq_iff_eq]at c
  obtain⟨_,q⟩:=u5a q
  refine wpAny_assign_Name (u2g H.stat H.inv H.rel c.1 c.2 rv fun h' t' I' R' Hd tk=>?_)
  exact⟨h',t',own,σ,_,rfl,I',.refl ..,(Keep.refl ..).hid Hd (fun a z=>.inl (u3q (fun y hy=>by simp at hy;subst hy;exact⟨_,c.1⟩) z)),R',q⟩
 |attr e n=>
  replace c:=w4s c;obtain⟨o,a,p,rfl,c⟩:=c
  simp only [Bool.and_eq_true,beq_iff_eq]at c
  show wpAny _ A (do
   let ov←holding [v] (eval o env)
   standAt p.atName
   holding [v,ov] (setAttr ov a v)
   release [v,ov] []) _ _ _
  refine wpAny_bind (wpAny_holding ?_)
  refine u8a H (se e nm sc o c.2 A fs r env loc own σ h t _ _ H q) fun ov own1 σ1 h1 t1 H1 x k tk p=>?_
  obtain⟨om,ro,p⟩:=p
  refine wpAny_bind (wpAny_standAt (wpAny_bind (wpAny_holding ?_)))
  refine u0e (u6l (X:=noX) (E:=SPst cx fs env sc own h (ExQ E)) H1.inv c.1 ro (rv.tk tk) p) (fun _ _ e=>e) fun _ own2 σ2 h2 t2 I2 x2 k2 p2=>?_
  refine wpAny_release' ?_
  exact((SPst.here I2 (H1.go I2 x2 k2).rel (P:=LocQ K) p2).up x2 k2.wide).up x k.wide
 |item e i=>
  replace c:=w4r c;obtain⟨o,s,p,rfl,c⟩:=c
  rw [Bool.and_eq_true]at c
  have e0:assign (.Subscript o s p) env v=(do
   let ov←holding [v] (eval o env)
   let iv←holding [v,ov] (eval s env)
   standAt p
   holding [v,ov,iv] (setItem ov iv v)
   release [v,ov,iv] []):=by
   cases s<;>first|rfl|(exfalso;have c2:=c.2;cases i<;>exact Bool.false_ne_true c2)
  rw [e0]
  refine wpAny_bind (wpAny_holding ?_)
  refine u8a H (se e nm sc o c.1 A fs r env loc own σ h t _ _ H q) fun ov own1 σ1 h1 t1 H1 x k tk p=>?_
  obtain⟨om,ro,p⟩:=p
  refine wpAny_bind (wpAny_holding ?_)
  refine wpAny_mono (u8a (R:=fun iv s2=>wpAny (model cx.prog cx.w) A (do
   standAt _
   holding [v,ov,iv] (setItem ov iv v)
   release [v,ov,iv] []) (SPst cx fs env sc own h (LocQ K)) (SPst cx fs env sc own h (ExQ E)) s2) (E:=E) H1 (se i nm sc s c.2 A fs r env loc own1 σ1 h1 t1 _ _ H1 p) fun iv own2 σ2 h2 t2 H2 x2 k2 tk2 p2=>?_) (fun _ _ z=>z) fun _ _ z=>z.up x k.wide
  obtain⟨im,ri,p2⟩:=p2
  refine wpAny_bind (wpAny_standAt (wpAny_bind (wpAny_holding ?_)))
  refine u0e (u6m (X:=noX) (E:=SPst cx fs env sc own h (ExQ E)) H2.inv (ro.tk tk2) ri ((rv.tk tk).tk tk2) p2) (fun _ _ e=>e) fun _ own3 σ3 h3 t3 I3 x3 k3 p3=>?_
  refine wpAny_release' ?_
  exact(((SPst.here I3 (H2.go I3 x3 k3).rel (P:=LocQ K) p3).up x3 k3.wide).up x2 k2.wide).up x k.wide
 |tup is=>
  replace c:=x6v c;obtain⟨es,x1,p,tn,rfl,ht,c⟩:=c
  ·skip
   obtain⟨hr,q⟩:=q
   have ok:=v1p c
   have qq:u9q is false m loc fun loc'=>K loc' σ:=by
    clear rv
    cases m with
    |tup xs=>exact v3y q
    |_=>exact False.elim q
   refine u7p (K:=fun loc'=>K loc' σ) (H.around.hd hr) H.stat H.inv H.rel ht ok rv qq fun loc' h' t' q I' R' Hd tk=>?_
   ·exact⟨h',t',own,σ,loc',rfl,I',.refl ..,(Keep.refl ..).hid Hd (fun a z=>.inl (u3q ok.scs z)),R',q⟩
end
end Mine
end
section
open PySem PySem.W PyProof.Rows PySem.Builtin.ObjectAttr
set_option maxRecDepth 20000
namespace Mine
section
variable {T:Tab} {cx:Cx T} {CS:u1n} {A:Around} {fs outer:List Env} {r:Nat} {env:Env} {nm:Nm} {sc:Sc} {loc loc2:Loc} {own own1 own':Addr→Option Addr} {σ σ1:Hp} {h h0 h1 h2 h':Heap} {t:Nat} {X Y:Addr→Prop} {M:Model}
variable {α β:Type} {P:α→Loc→Hp→Heap→Prop} {v:α} {s s':Shared}
theorem v1z (hfr:A.frames=some (env::outer)) {E:MV→Loc→Hp→Prop} {e:Value} (p:SPst cx (env::outer) env sc own h (ExQ E) e s'):
  notedBy M A env (fun x s'=>cameBackBy M A env (SPst cx (env::outer) env sc own h (ExQ E)) x s') e s':=by
 obtain⟨h',t',own',σ',loc',rfl,I,x,k,R,a,C,l,rfl,hs,q⟩:=p
 unfold notedBy
 refine u3v hfr I hs fun own2 h2 I2 x2 k2 tr=>?_
 unfold cameBackBy
 refine w1i I2 hs tr fun h3 I3 k3=>?_
 have R2:=R.keep x2 k2 (I.tk0 k2)
 have R3:=R2.keep (.refl ..) k3 (I2.tk0 k3)
 exact⟨h3,t',own2,σ',loc',rfl,I3,x.trans k x2,(k.trans x k2.wide).trans (x.trans k x2) k3.wide,R3,a,C,l,rfl,hs,q⟩
theorem w7v {R:Value→Shared→Prop} {E:Value→Shared→Prop} (S:EStat env nm) (W:ERel cx env sc loc own h) {x:Str} {i:Nat} {mv:MV} (hs:sc.lookup x=some i) (hk:nm.lookup x=some .local∨nm.lookup x=some .cell)
  (hl:loc[i]?=some (some mv)) (k:∀v,VRel cx.sy h mv v→R v (cx.mk' h t)):wpAny M A (loadName env x) R E (cx.mk' h t):=by
 rw [←S.kindOf]at hk
 refine Or.elim hk (fun hk=>?_) (fun hk=>?_)
 ·refine u0d W.ns fun m ns l=>?_
  refine u0d (l x i mv hs hl hk) fun v h4 h5=>?_
  exact wpAny_loadName_local S.kind hk ns h4 (k v h5)
 ·refine u7m (W.cells x i hs (.inl hk)) fun c o vo c1 c2 c3 c4 c5 c6 c8=>?_
  refine u0d (c8 mv hl) fun v zz1 h5=>?_
  subst zz1
  exact wpAny_loadName_cell S.kind hk c1 ⟨o,c2,c3⟩ (k v h5)
set_option tactic.hygienic true in
theorem u4e (I:Inv cx fs own σ h) {op:Operator} (ho:w9t op=true) {ma mb:MV} (hi:match ma,mb with|.int _,.int _=>True|_,_=>False) {a b:Value} (ra:VRel cx.sy h ma a) (rb:VRel cx.sy h mb b) {Q:MV→Hp→Prop} {E:Value→Shared→Prop}
  (q:binP op ma mb σ Q):wpAny (model cx.prog cx.w) A (inplaceOp op a b) (Pst cx fs X own h (VQ cx Q)) E (cx.mk' h t):=by
 cases ma<;>cases mb<;>first|exact hi.elim|skip
 ·rename_i i j
  refine u0i ra.int_inv fun t1 zz2=>?_
  subst zz2
  refine u0i rb.int_inv fun t2 zz3=>?_
  subst zz3
  unfold w9t at ho
  simp only [Bool.or_eq_true,beq_iff_eq]at ho
  rcases ho with((rfl|rfl)|rfl)|rfl
  ·exact PyProof.Rows.iadd_int (u0r I (.mk_int _ _) q)
  ·exact PyProof.Rows.isub_int (u0r I (.mk_int _ _) q)
  ·exact PyProof.Rows.ixor_int (u0r I (.mk_int _ _) q)
  ·exact PyProof.Rows.irshift_int q.1 (u0r I (.mk_int _ _) q.2)
theorem w5l {c:Sem α} {P:α→Hp→Heap→Prop} {E:MV→Loc→Hp→Prop} {R:α→Shared→Prop} (x:OwnExt own own1 h) (k:Keep fs own (u2f env sc) h h1) (H:Here cx A fs r env nm sc loc own1 σ1 h1)
  (W:wpAny (model cx.prog cx.w) A c (Pst cx fs noX own1 h1 P) (Pst cx fs noX own1 h1 (EQ fun x σ1=>E x loc σ1)) s)
  (f:∀v own2 σ2 h2 t2,Here cx A fs r env nm sc loc own2 σ2 h2→OwnExt own own2 h→Keep fs own (u2f env sc) h h2→TK cx.sy h1 h2→P v σ2 h2→R v (cx.mk' h2 t2)):
  wpAny (model cx.prog cx.w) A c R (SPst cx fs env sc own h (ExQ E)) s:=
 wpAny_mono (u8a H W fun v own2 σ2 h2 t2 H2 x2 k2=>f v own2 σ2 h2 t2 H2 (x.trans k x2) ((k.trans x k2.wide))) (fun _ _ z=>z) fun _ _ z=>z.up x k
theorem v9p {tm:MT} {op:Operator} {e:ME} (se:∀e,SndE cx CS e):SndS cx CS (.aug tm op e):=fun nm sc st c A outer r env loc own σ h t Q E H q=>by
 replace c:=x7c c;obtain⟨tg,o,v,pos,rfl,c⟩:=c
 ·skip
  simp only [Bool.and_eq_true,beq_iff_eq]at c
  obtain⟨⟨⟨⟨rfl,c1⟩,c2⟩,c3⟩,c4⟩:=c
  cases tm with
  |nm i=>
   replace c3:=x6w c3;obtain⟨x,p,rfl,c3⟩:=c3
   simp only [Bool.and_eq_true,Bool.or_eq_true,beq_iff_eq]at c3
   refine u0d (v8g q) fun old hl q=>?_
   refine wpAny_AugAssign_Name (w7v H.stat H.rel c3.1 c3.2 hl fun ov ro=>?_)
   refine u8a H (se e nm sc v c2 A _ r env loc own σ h t _ _ H q) fun u own1 σ1 h1 t1 H1 x1 k tk p=>?_
   obtain⟨m,rm,hi,p⟩:=p
   refine u0e (u4e (X:=noX) H1.inv c1 hi (ro.tk tk) rm p) (fun _ _ e=>e) fun w own2 σ2 h2 t2 I2 x2 k2 p2=>?_
   obtain⟨mn,rn,p2⟩:=p2
   have H2:=H1.go I2 x2 k2
   refine u2g H.stat H2.inv H2.rel c3.1 c3.2 rn fun h' t' I' R' Hd tk'=>?_
   refine SPst.up x1 k.wide (SPst.up x2 k2.wide ?_)
   exact⟨h',t',own2,σ2,_,rfl,I',.refl ..,(Keep.refl ..).hid Hd (fun a z=>.inl (u3q (fun y hy=>by simp at hy;subst hy;exact⟨_,c3.1⟩) z)),R',(u5a p2).2⟩
  |attr o' n=>
   replace c3:=w4s c3;obtain⟨oe,a,p,rfl,c3⟩:=c3
   simp only [Bool.and_eq_true,beq_iff_eq]at c3
   refine wpAny_AugAssign_AttributeAny ?_
   refine u8a H (se o' nm sc oe c3.2 A _ r env loc own σ h t _ _ H q) fun ov own1 σ1 h1 t1 H1 x1 k tk p=>?_
   obtain⟨om,ro,p⟩:=p
   refine v1l H1.inv c3.1 ro p fun old oldv t1' rold q=>?_
   refine w5l x1 k.wide H1 (se e nm sc v c2 A _ r env loc own1 σ1 h1 t1' _ _ H1 q) fun u own2 σ2 h2 t2 H2 x2 k2 tk2 p2=>?_
   obtain⟨m,rm,hi,p2⟩:=p2
   refine u0e (u4e (X:=noX) H2.inv c1 hi (rold.tk tk2) rm p2) (fun _ _ e=>e) fun w own3 σ3 h3 t3 I3 x3 k3 p3=>?_
   obtain⟨mn,rn,p3⟩:=p3
   have H3:=H2.go I3 x3 k3
   refine u0e (u6l (X:=noX) H3.inv c3.1 ((ro.tk tk2).tk (H2.inv.tk0 k3)) rn p3) (fun _ _ e=>e) fun _ own4 σ4 h4 t4 I4 x4 k4 p4=>?_
   exact SPst.up x2 k2 (SPst.up x3 k3.wide (SPst.up x4 k4.wide (SPst.here I4 (H3.go I4 x4 k4).rel p4)))
  |item o' i=>
   replace c3:=w4r c3;obtain⟨oe,ie,p,rfl,c3⟩:=c3
   rw [Bool.and_eq_true]at c3
   refine wpAny_AugAssign_SubscriptAny ?_ fun _ _ _=>by
    cases ie<;>first|rfl|(exfalso;have c5:=c3.2;cases i<;>exact Bool.false_ne_true c5)
   refine u8a H (se o' nm sc oe c3.1 A _ r env loc own σ h t _ _ H q) fun ov own1 σ1 h1 t1 H1 x1 k1 tk1 p=>?_
   obtain⟨om,ro,p⟩:=p
   refine w5l x1 k1.wide H1 (se i nm sc ie c3.2 A _ r env loc own1 σ1 h1 t1 _ _ H1 p) fun iv own2 σ2 h2 t2 H2 x2 k2 tk2 p=>?_
   obtain⟨im,ri,p⟩:=p
   refine(v4f H2.inv (ro.tk tk2) ri p fun old oldv t2' rold q=>?_).2
   refine w5l x2 k2 H2 (se e nm sc v c2 A _ r env loc own2 σ2 h2 t2' _ _ H2 q) fun u own3 σ3 h3 t3 H3 x3 k3 tk3 p3=>?_
   obtain⟨m,rm,hi,p3⟩:=p3
   refine u0e (u4e (X:=noX) H3.inv c1 hi (rold.tk tk3) rm p3) (fun _ _ e=>e) fun w own4 σ4 h4 t4 I4 x4 k4 p4=>?_
   obtain⟨mn,rn,p4⟩:=p4
   have tk4:=H3.inv.tk0 k4
   have H4:=H3.go I4 x4 k4
   refine u0e (u6m (X:=noX) H4.inv (((ro.tk tk2).tk tk3).tk tk4) ((ri.tk tk3).tk tk4) rn p4) (fun _ _ e=>e) fun _ own5 σ5 h5 t5 I5 x5 k5 p5=>?_
   exact SPst.up x3 k3 (SPst.up x4 k4.wide (SPst.up x5 k5.wide (SPst.here I5 (H4.go I5 x5 k5).rel p5)))
  |tup is=>exact(Bool.false_ne_true c4).elim
theorem ERel.but (R:ERel cx env sc loc own h) {a:Addr} (hl:a≠env.locals) (ho:∀o,h.get? a=some o→∀v,o.data≠ .cell v) (hk:∀b o,b≠a→h.get? b=some o→h'.get? b=some o) (tk:TK cx.sy h h'):ERel cx env sc loc own h':=by
 obtain⟨⟨m,ns,l⟩,oL,bL,cells,inj,scInj⟩:=R
 refine⟨⟨m,?_,fun x i mv h1 h2 h3=>?_⟩,oL,bL,fun x i h1 h2=>?_,inj,scInj⟩
 ·refine u1b ns fun o es ep e d r=>?_
  exact⟨o,es,ep,hk _ o (Ne.symm hl) e,d,r⟩
 ·refine u0d (l x i mv h1 h2 h3) fun v h4 h5=>?_
  exact⟨v,h4,h5.tk tk⟩
 ·refine u7m (cells x i h1 h2) fun c o vo c1 c2 c3 c4 c5 c6 c8=>?_
  refine⟨c,o,vo,c1,hk c o (fun z=>by rw [z]at c2;exact ho o c2 _ c3) c2,c3,c4,c5,c6,fun mv hm=>?_⟩
  refine u0d (c8 mv hm) fun v h4 h5=>?_
  exact⟨v,h4,h5.tk tk⟩
theorem w6q {tg:Expr} {v:Value} (hs:∀e p,tg≠ .Starred e p):assignAll v ((assignEach [tg] env).map (·.2))=assign tg env v:=by
 cases tg<;>first|rfl|exact absurd rfl (hs _ _)
theorem w6a {tm:MT} {tg:Expr} (c:chkT cx.K T.sym nm sc tm tg=true):∀e p,tg≠ .Starred e p:=fun e p z=>by
 subst z;cases tm<;>exact Bool.false_ne_true c
theorem w5y {tg v:Expr} {nm:Nm} (c:x3i nm tg v=true):∃y p el gens scope vpos,tg=.Name y p∧v=.ListComp el gens scope vpos∧nm.lookup y=some .local∧(p.line==vpos.line)=true∧(!(scope.names.any fun(n,k)=>n==y && (k==.local||k==.cell)))=true:=by
 refine u0a (tgE 5 c) fun zz9 c=>?_
 refine u1j zz9 fun y p zz506=>?_
 subst zz506
 refine u0a (tgE 20 c) fun zz10 c=>?_
 refine u2e zz10 fun el gs s zz507=>?_
 obtain⟨q,rfl⟩:=zz507
 refine u0a (Bool.and_eq_true_iff.mp c) fun c1 c=>?_
 refine u0a (Bool.and_eq_true_iff.mp c) fun c2 c3=>?_
 exact⟨y,p,el,gs,s,q,rfl,rfl,beq_iff_eq.mp c1,c2,c3⟩
theorem v9i {K:Frag} {sy:List Str} {nm:Nm} {sc:Sc} {tm:MT} {tg v:Expr} (c:chkT K sy nm sc tm tg=true) (d:(!Nat.beq (tagE tg) 16||!w4n v)=true):swappedStores [tg] v env=pure none:=by
 cases tm with
 |nm i=>refine u0a (tgE 5 c) fun zz11 c=>?_;refine u1j zz11 fun y p zz508=>?_;subst zz508;rfl
 |attr m n=>refine u0a (tgE 6 c) fun zz12 c=>?_;refine u2e zz12 fun y x p zz509=>?_;subst zz509;rfl
 |item m n=>refine u0a (tgE 7 c) fun zz13 c=>?_;refine u2e zz13 fun y x p zz510=>?_;subst zz510;rfl
 |tup is=>
  refine u0a (tgE 16 c) fun zz14 c=>?_
  refine u2e zz14 fun y x p zz511=>?_
  subst zz511
  clear c
  cases v<;>first|rfl|exact(Bool.false_ne_true d).elim
set_option tactic.hygienic true in
theorem v5w {i:Nat} {m:ME} (se:∀bn e,SndE (cx.wb bn) CS e) (sT:∀bn e,SndT (cx.wb bn) CS e) {y:Str} {p:Pos} {el:Expr} {gens:List Comprehension} {scope:Scope} {vpos pos:Pos} {Q:Out→Loc→Hp→Prop} {E:MV→Loc→Hp→Prop}
  (H:Here cx A (env::outer) r env nm sc loc own σ h) (q:ewp T CS r m loc σ (fun v σ1=>setP loc i v fun l=>Q .next l σ1) (fun x σ1=>E x loc σ1)) (c1:chkE cx.K T.sym nm sc m (.ListComp el gens scope vpos)=true)
  (c2:sc.lookup y=some i∧(nm.lookup y=some .local∨nm.lookup y=some .cell)) (d1:nm.lookup y=some .local) (d2:(p.line==vpos.line)=true) (d3:(!(scope.names.any fun(n,k)=>n==y && (k==.local||k==.cell)))=true):
  wpAny (model cx.prog cx.w) A (exec (.Assign [.Name y p] (.ListComp el gens scope vpos) pos) env) (SPst cx (env::outer) env sc own h (u3f cx Q)) (SPst cx (env::outer) env sc own h (ExQ E)) (cx.mk' h t):=by
 have hsw:swapsWith (.ListComp el gens scope vpos) (some (.Name y p)) pos.line env=pure true:=by
  have e1:(env.blockKind==ScopeKind.function)=true:=by unfold Env.blockKind;rw [H.stat.kind];rfl
  have e2:(env.kindOf y==some NameKind.local)=true:=by rw [H.stat.kindOf,d1];rfl
  have e3:(p.line==(Expr.ListComp el gens scope vpos).pos.line)=true:=d2
  show(pure (env.blockKind==.function && env.kindOf y==some .local && p.line==(Expr.ListComp el gens scope vpos).pos.line && !(scope.names.any fun(n,k)=>n==y && (k==.local||k==.cell))):Sem Bool)=pure true
  rw [e1,e2,e3,d3];rfl
 rw [exec_Assign_Name_used _ _ _ _ hsw]
 refine wpAny_bind (wpAny_standAt (wpAny_bind ?_))
 refine y8o (y7y c1) fun elt ti one k e1 e2 conds zz15=>?_
 subst zz15
 refine y8n (w4v c1) fun el' target iter ifs scope' vpos' tn heq ht c1=>?_
 cases heq
 simp only [Bool.and_eq_true,beq_iff_eq,Bool.not_eq_true']at c1
 refine al7 c1 fun f2 f3 f4 f5 f6 f7 f8=>?_
 show wpAny _ A (do let _←comprehension (.ListComp _ [⟨target,iter,ifs,0⟩] _ _) _ env _ (newList []) false (eval iter env) (some (assign (.Name y p) env))) _ _ _
 refine wpAny_bind ?_
 refine wpAny_mono (v4x (fun bn=>se bn elt) (se cx.ban e1) (se cx.ban e2) (fun bn c _=>sT bn c) H ht f2 f3 f4 f5 f6 (v1s f7) (fun z=>by rw [z]at f8;exact f8) q (Q':=fun _ s'=>SPst cx (env::outer) env sc own h (u3f cx Q) .next s') fun D C s hC ce=>?_) (fun _ _ z=>wpAny_pure (wpAny_pure z)) fun _ _ z=>v4u H z
 obtain⟨own',σ',h',t',mm,rfl,I,x,k',ns,oC,bC,_,q⟩:=ce
 have H1:=H.go I x k'
 show wpAny _ A (assign (.Name y p) env (.ref D)) _ _ _
 have nf:¬u0o (env::outer) C:=u1z H.inv hC
 refine wpAny_assign_Name (u2g H.stat H1.inv H1.rel c2.1 c2.2 (.mk_ref D) fun h2 t2 I2 R2 Hd tk2=>?_)
 have CL:C≠env.locals:=fun z=>by
  refine u0d H.rel.ns fun _ zz17 _=>?_
  refine u7o zz17 fun o es ep e _=>?_
  have e':h.get? C=some o:=by rw [z];exact e
  rw [hC]at e';cases e'
 have nw:¬wrX env [y] C:=fun z=>by
  rcases z with z|⟨x',hx,_,z⟩
  ·exact CL z
  ·simp only [List.mem_cons,List.not_mem_nil,or_false]at hx
   subst hx
   rw [H.stat.kindOf,d1]at z;cases z
 refine u1b ns fun oo es ep e d rr=>?_
 have eC:=Hd.same _ _ nw e
 refine⟨mm,⟨oo,es,ep,eC,d,rr⟩,fun h3 sb=>?_⟩
 have hk3:∀b o,b≠C→h2.get? b=some o→h3.get? b=some o:=fun b o hb e=>sb.extBut b o hb e
 obtain⟨I3,tk3⟩:=I2.buts (X:=fun b=>b=C) (h':=h3) (fun a x=>by
  subst x
  exact⟨oC,bC,fun z=>absurd z nf,fun ys n e'=>by rw [eC]at e';cases e';cases d⟩) hk3
 have R3:=R2.but CL (fun o' e' v' z=>by rw [eC]at e';cases e';rw [d]at z;cases z) hk3 tk3
 exact⟨h3,t2,own',σ',_,rfl,I3,x,((k'.wide (X:=u2f env sc)).hid Hd (fun a z=>.inl (u3q (fun y' hy=>by simp at hy;subst hy;exact⟨_,c2.1⟩) z))).buts (Y:=fun b=>b=C) hk3 fun a z=>.inr (z▸hC),R3,(u5a q).2⟩
theorem w6y {K:Frag} {sy:List Str} {nm:Nm} {sc:Sc} {tm:MT} {tg v:Expr} {l:Nat} (c:chkT K sy nm sc tm tg=true) (hn:Nat.beq (tagE tg) 5=false):swapsWith v (some tg) l env=pure false:=by
 cases tm with
 |nm i=>refine u0a (tgE 5 c) fun zz18 c=>?_;refine u1j zz18 fun y p zz513=>?_;subst zz513;exact(Bool.false_ne_true hn.symm).elim
 |attr m n=>refine u0a (tgE 6 c) fun zz19 c=>?_;refine u2e zz19 fun y x p zz514=>?_;subst zz514;clear c;cases v<;>rfl
 |item m n=>obtain⟨⟨y,x,p,rfl⟩,c⟩:=tgE 7 c;clear c;cases v<;>rfl
 |tup is=>obtain⟨⟨y,x,p,rfl⟩,c⟩:=tgE 16 c;clear c;cases v<;>rfl
theorem v9q {tm:MT} {m:ME} (se':∀bn e,SndE (cx.wb bn) CS e) (sT:∀bn e,SndT (cx.wb bn) CS e):SndS cx CS (.asg tm m):=fun nm sc st c A outer r env loc own σ h t Q E H q=>by
 have se:∀e,SndE cx CS e:=se' cx.ban
 replace c:=x7d c;obtain⟨tg,v,pos,rfl,c⟩:=c
 obtain⟨ca,c4⟩:=Bool.and_eq_true_iff.mp c
 refine u0a (Bool.and_eq_true_iff.mp ca) fun cb c3=>?_
 refine u0a (Bool.and_eq_true_iff.mp cb) fun c1 c2=>?_
 clear c ca cb
 have go:swapsWith v (some tg) pos.line env=pure false→wpAny (model cx.prog cx.w) A (exec (.Assign [tg] v pos) env) (SPst cx (env::outer) env sc own h (u3f cx Q)) (SPst cx (env::outer) env sc own h (ExQ E)) (cx.mk' h t):=fun hw=>by
  refine wpAny_Assign_stores ?_ hw (v9i c2 c4)
  refine u8a H (se m nm sc v c1 A _ r env loc own σ h t _ _ H q) fun u own1 σ1 h1 t1 H1 x k tk p=>?_
  obtain⟨mv,rv,p⟩:=p
  rw [w6q (w6a c2)]
  exact wpAny_mono (w6r se c2 H1 rv p) (fun _ _ z=>(z.up x k.wide).flow) fun _ _ z=>z.up x k.wide
 cases hn:Nat.beq (tagE tg) 5 with
 |false=>exact go (w6y c2 hn)
 |true=>
 cases hc:v1g v with
 |true=>
  rw [hc,hn,Bool.not_true,Bool.false_or,Bool.or_false]at c3
  refine y8p (w5y c3) fun y p el gens scope vpos zz23 zz24 d1 d2 d3=>?_
  subst zz23
  subst zz24
  cases tm with
  |nm i=>
   refine u0a (Bool.and_eq_true_iff.mp (show(sc.lookup y==some i && (nm.lookup y==some .local||nm.lookup y==some .cell))=true from c2)) fun c5 c6=>?_
   exact v5w se' sT H q c1 ⟨beq_iff_eq.mp c5,(Bool.or_eq_true_iff.mp c6).imp beq_iff_eq.mp beq_iff_eq.mp⟩ d1 d2 d3
  |_=>exact(Bool.false_ne_true c2).elim
 |false=>exact go (v7s hc _ _)
end
end Mine
end
section
open PySem PySem.W PyProof.Rows PySem.Builtin.ObjectAttr
set_option maxRecDepth 20000
namespace Mine
section
variable {T:Tab} {cx:Cx T} {CS:u1n} {A:Around} {fs outer:List Env} {r:Nat} {env:Env} {nm:Nm} {sc:Sc} {loc loc2:Loc} {own own1 own':Addr→Option Addr} {σ σ1:Hp} {h h0 h1 h2 h':Heap} {t:Nat} {X Y:Addr→Prop} {M:Model}
variable {α β:Type} {P:α→Loc→Hp→Heap→Prop} {v:α} {s s':Shared}
theorem v9j {m:ME} {b:List MS} (sT:SndT cx CS m) (sb:u8e cx CS b):SndS cx CS (.whl m b):=fun nm sc st c A outer r env loc own σ h t Q E H q=>by
 replace c:=x6x c;obtain⟨e,y,pos,rfl,c⟩:=c
 ·skip
  simp only [Bool.and_eq_true]at c
  obtain⟨J,⟨n0,j0⟩,turn⟩:=q
  have hfr:=H.around.frames
  refine wpAny_While (codeAny_whileLoop (fun n s=>∃loc' own' σ' h' t',s=cx.mk' h' t'∧Inv cx (env::outer) own' σ' h'∧OwnExt own own' h∧Keep (env::outer) own (u2f env sc) h h'∧ERel cx env sc loc' own' h'∧J n loc' σ') ?_ n0
   ⟨loc,own,σ,h,t,rfl,H.inv,.refl ..,.refl ..,H.rel,j0⟩)
  rintro n s ⟨loc',own1,σ1,h1,t1,rfl,I1,x1,k1,R1,j⟩
  have H1:Here cx A (env::outer) r env nm sc loc' own1 σ1 h1:=⟨H.around,H.stat,I1,R1⟩
  refine u0e (sT nm sc e c.1 A _ r env loc' own1 σ1 h1 t1 _ _ H1 (turn n loc' σ1 j)) (fun e' s' z=>v1z hfr ((v4u H1 z).up x1 k1)) fun b own2 σ2 h2 t2 I2 x2 k2 p=>?_
  have H2:=H1.go I2 x2 k2
  cases b with
  |true=>
   simp only [if_true]
   refine wpAny_mono (sb nm sc y c.2 A outer r env loc' own2 σ2 h2 t2 _ E H2 p) (fun f s3 p3=>?_) fun e' s' z=>v1z hfr ((z.up x2 k2.wide).up x1 k1)
   have p3:=(p3.up x2 k2.wide).up x1 k1
   obtain⟨h',t',own',σ',loc3,rfl,I,x,k,R,q⟩:=p3
   cases f with
   |next=>refine u0d q fun m' hm q=>?_;exact⟨m',hm,loc3,own',σ',h',t',rfl,I,x,k,R,q⟩
   |cont=>refine u0d q fun m' hm q=>?_;exact⟨m',hm,loc3,own',σ',h',t',rfl,I,x,k,R,q⟩
   |brk=>exact⟨h',t',own',σ',loc3,rfl,I,x,k,R,q⟩
   |ret v=>exact⟨h',t',own',σ',loc3,rfl,I,x,k,R,q⟩
  |false=>
   have p:Q .next loc' σ2:=p
   simp only [Bool.false_eq_true,if_false]
   exact wpAny_execs_nil (SPst.up x1 k1 (SPst.up x2 k2.wide (SPst.here H2.inv H2.rel p)))
theorem x1i {k:SrcK} {e1 e2:ME} {iter:Expr} (c:srcB cx.K T.sym nm sc k e1 e2 iter=true):w9x cx.K T.sym nm sc k e1 e2 iter:=v1s c
structure FLoop (cx:Cx T) (env:Env) (outer:List Env) (sc:Sc) (own0:Addr→Option Addr) (h0:Heap) (kk:ItK) (It:Addr) (xs rest:List MV) (loc:Loc) (own:Addr→Option Addr) (σ:Hp) (h:Heap):Prop where
 inv:Inv cx (env::outer) own σ h
 ext:OwnExt own0 own h0
 keep:Keep (env::outer) own0 (u2f env sc) h0 h
 ownI:∀b,ItX kk It b→own b=none
 at_:ItAt cx.sy kk It xs rest h
 rel:ERel cx env sc loc own h
theorem w7n (R:ERel cx env sc loc own h) {a:Addr} (ho:Odd h a) (e:∃o,h.get? a=some o):¬u2f env sc a:=fun z=>by
 refine u0i e fun o e=>?_
 refine Or.elim z (fun zz506=>?_) (fun zz507=>?_)
 ·subst zz506
  refine u0d R.ns fun m zz3 _=>?_
  refine u1b zz3 fun o' es ep e' d _=>?_
  exact(ho o' e').1 _ _ d
 ·obtain⟨x,i,h1,h2,h3⟩:=zz507
  refine u7n (R.cells x i h1 (.inl h3)) fun c o' vo c1 c2 c3 _=>?_
  rw [h2]at c1;cases c1
  exact(ho o' c2).2 _ c3
theorem w8k {k:SrcK} {tm:MT} {tg:Expr} (c:forT nm sc k tm tg=true) (z:isZ k=true):∃es x p,tg=.Tuple es x p:=by
 cases tm with
 |nm i=>
  refine u0a (tgE 5 c) fun _ c=>?_
  have:=(Bool.and_eq_true_iff.mp c).2
  rw [z]at this
  exact(Bool.false_ne_true this).elim
 |tup is=>refine u0d (u8x c) fun tn ht _=>?_;exact w2c ht
 |_=>exact(Bool.false_ne_true c).elim
theorem w9v {k:SrcK} {tm:MT} {tg:Expr} (c:forT nm sc k tm tg=true) {m:MV} {r:Nat} {K:Loc→Hp→Prop} {E:MV→Hp→Prop} (q:asgP T CS r tm m loc σ K E):
  ∃tn ti one,u0m tg=some (tn,one)∧u4z nm sc tn ti∧u9q ti one m loc fun loc'=>K loc' σ:=by
 cases tm with
 |nm i=>
  refine u0a (tgE 5 c) fun zz4 c=>?_
  refine u1j zz4 fun y p zz503=>?_
  subst zz503
  exact⟨[y],[i],true,rfl,v1p (Bool.and_eq_true_iff.mp c).1,fun j hj=>by obtain rfl:=List.mem_singleton.mp hj;exact(u5a q).1,(u5a q).2⟩
 |tup is=>
  refine u0d (u8x c) fun tn ht c=>?_
  refine u0a q fun q1 q2=>?_
  refine⟨tn,is,false,ht,v1p c,?_⟩
  cases m with
  |tup xs=>exact v3y q2
  |_=>exact q2.elim
 |_=>exact(Bool.false_ne_true c).elim
theorem tkX (I:Inv cx fs own σ h) (R:ERel cx env sc loc own h) (k:Keep fs own (u2f env sc) h h'):TK cx.sy h h':=
 I.tk k fun a ys n _ xa e=>by
  refine Or.elim xa (fun zz508=>?_) (fun zz509=>?_)
  ·subst zz508
   refine u0d R.ns fun m zz5 _=>?_
   refine u1b zz5 fun o' es ep e' d _=>?_
   have e'':h.get? env.locals=some o':=e'
   rw [e]at e'';cases e'';cases d
  ·obtain⟨x,i,z1,z2,z3⟩:=zz509
   refine u7n (R.cells x i z1 (.inl z3)) fun c o' vo c1 c2 c3 _=>?_
   rw [z2]at c1;cases c1
   rw [e]at c2;cases c2;cases c3
theorem v9o {tm:MT} {k:SrcK} {e1 e2:ME} {b:List MS} (s1:SndE cx CS e1) (s2:SndE cx CS e2) (sb:∀bn,u8e (cx.wb bn) CS b):SndS cx CS (.for tm k e1 e2 b):=fun nm sc st c A outer r env loc own σ h t Q E H q=>by
 replace c:=x7b c;obtain⟨tg,iter,y,pos,rfl,c⟩:=c
 ·skip
  simp only [Bool.and_eq_true,Bool.not_eq_true']at c
  refine al4 c fun c1 c2 c3 c4=>?_
  obtain⟨hr,q⟩:=q
  have hfr:=H.around.frames
  have hh:=H.around.hd hr
  refine wpAny_For ?_ (u5p c2 env)
  refine wpAny_mono (wpAny_mono (v3m (E:=fun x σ1=>E x loc σ1) (F:=fun σ2 xs st=>_) s1 s2 (x1i c1) H q (R:=fun it s₂=>codeAny (model cx.prog cx.w) A (.forLoop tg it y [] env) (fun r s'=>match r with|.ok f=>SPst cx (env::outer) env sc own h (u3f cx Q) f s'|.error e=>cameBackBy (model cx.prog cx.w) A env (SPst cx (env::outer) env sc own h (ExQ E)) e s') s₂)
   fun bn It kk xs st own2 σ2 h2 t2 sub sup pl Rd hst F=>?_) (fun v s z=>wpAny_mono z (fun _ _ z=>z) fun _ _ z=>v4u H z) fun _ _ z=>z) (fun _ _ z=>z) fun _ _ z=>v4u H z
  refine u4i F fun J j0 hJ turn fin=>?_
  obtain⟨P,hP⟩:∃P:Nat→Shared→Prop,∀n s,P n s↔∃rest loc' own' σ' h' t',n=rest.length∧s=cx.mk' h' t'∧FLoop (cx.wb bn) env outer sc own h kk It xs rest loc' own' σ' h'∧J rest loc' σ':=⟨_,fun _ _=>Iff.rfl⟩
  refine codeAny_forLoop_any P (fun n s z=>?_) xs.length ((hP _ _).mpr ⟨xs,loc,own2,σ2,h2,t2,rfl,rfl,⟨Rd.inv,Rd.ext,Rd.keep.wide,Rd.ownI,Rd.at_,
   ERel.keep (H.rel.re fun a ys n nb e z=>(sup a z).elim nb fun y=>by rw [Rd.new a y]at e;cases e) Rd.ext Rd.keep (TK.sub sub (H.inv.tk0 Rd.keep))⟩,j0⟩)
  have hP2:∀{rest loc' own' σ' h' t'},FLoop (cx.wb bn) env outer sc own h kk It xs rest loc' own' σ' h'→J rest loc' σ'→P rest.length (cx.mk' h' t'):=fun L j=>(hP _ _).mpr ⟨_,_,_,_,_,_,rfl,rfl,L,j⟩
  refine x8c ((hP _ _).mp z) fun rest loc' own1 σ1 h1 t1 zz8 zz9 L j=>?_
  subst zz8
  subst zz9
  clear hP z
  obtain⟨LI,Lx,Lk,LoI,Lat,LR⟩:=L
  refine v1e (cx:=cx.wb bn) hh LI Lat (hst _ (hJ _ _ _ j)) (fun e h2 t2 hk=>?_) fun x rest' v h2 t2 e rv at2 hk=>?_
  ·subst e
   obtain⟨I2,tk⟩:=LI.butsR (bn:=cx.ban) (h':=h2) (X:=ItX kk It) (fun a x=>⟨LoI a x,Rd.baseI a x,Rd.fr a x,(Lat.odd x).odd.2⟩) hk (fun a ys n z _ y=>z (sub a y)) (fun a z=>by
    refine u1j (LI.bans a (sub a z)) fun ys n e=>?_
    refine⟨ys,n,hk a _ (fun x=>?_) e⟩
    refine u1j (H.inv.bans a z) fun _ _ e=>?_
    rw [Rd.new a x]at e;cases e)
   exact wpAny_execs_nil ⟨h2,t2,own1,σ1,loc',rfl,I2,Lx,Lk.buts (Y:=ItX kk It) hk fun a x=>.inr (Rd.new a x),ERel.re (cx:=cx.wb bn) (bn:=cx.ban) (fun a ys n z _ y=>z (sub a y)) (LR.odds (fun b x=>(Lat.odd x).odd.1) hk tk),fin _ _ j⟩
  ·subst e
   obtain⟨I2,tk⟩:=LI.butsB (h':=h2) (X:=ItX kk It) (fun a x=>⟨LoI a x,Rd.baseI a x,fun z=>absurd z (Rd.fr a x),fun ys n e=>⟨(Lat.odd x).odd.2 ys n e,at2.stay Lat x e⟩⟩) hk
   have k2:=Lk.buts (Y:=ItX kk It) hk fun a x=>.inr (Rd.new a x)
   have R2:=LR.odds (fun b x=>(Lat.odd x).odd.1) hk tk
   have iI:ItX kk It It:=ItX.self ..
   refine v8r (cx:=cx.wb bn) at2 (pl.imp id (w8k c4)) fun h2' at2' hk'=>?_
   refine u0a (I2.buts (X:=fun b=>b=It) (fun a x=>by subst x;exact⟨LoI a iI,Rd.baseI a iI,fun z=>absurd z (Rd.fr a iI),at2.nt⟩) hk') fun I2' tk'=>?_
   have k2':=k2.buts (Y:=fun b=>b=It) hk' fun a x=>.inr (x▸Rd.new _ iI)
   have R2':=R2.odd (at2.odd iI).odd.1 hk' tk'
   refine u1b (w9v c4 (turn _ _ _ _ j)) fun tn ti one ht tok bp=>?_
   refine u7p (cx:=cx.wb bn) hh H.stat I2' R2' ht tok (rv.tk tk') bp fun loc3 h3 t3 q I3 R3 H3 tk3=>?_
   have wf:∀a,wrX env tn a→u2f env sc a:=fun a z=>u3q tok.scs z
   have nx:∀{h:Heap} {l:Loc},ItAt (cx.wb bn).sy kk It xs rest' h→ERel (cx.wb bn) env sc l own1 h→∀b,ItX kk It b→¬u2f env sc b:=fun a R b x=>w7n R (a.odd x).odd.1 (let ⟨o,e,_⟩:=a.odd x;⟨o,e⟩)
   have at3:=at2'.keep tk3 fun b o x e=>H3.same _ _ (fun z=>nx at2' R2' b x (wf _ z)) e
   have k3:=k2'.hid H3 fun a z=>.inl (wf a z)
   refine wpAny_mono (sb bn nm sc y c3 A outer r env loc3 own1 σ1 h3 t3 _ E ⟨H.around,H.stat,I3,R3⟩ q) (fun f s4 p4=>?_) fun e' s' z=>v1z hfr (SPst.re sub (fun _ _ _ _ q=>q) (z.up Lx k3))
   obtain⟨h4,t4,own4,σ4,loc4,rfl,I4,x4,k4,R4,q4⟩:=p4
   have L4:FLoop (cx.wb bn) env outer sc own h kk It xs rest' loc4 own4 σ4 h4:=by
    refine⟨I4,Lx.trans k3 x4,k3.trans Lx k4,fun b x=>?_,at3.keep (tkX I3 R3 k4) fun b o x e=>?_,R4⟩
    ·refine u0d (at3.odd x) fun o e _=>?_
     exact x4.old e (LoI b x)
    ·refine Or.elim (k4.same b o e (LoI b x) (nx at3 R3 b x)) (fun z=>?_) (fun zz510=>?_)
     ·exact z
     ·obtain⟨z,_⟩:=zz510
      exact absurd z (Rd.fr b x)
   have fin:=fun(f:Flow) (q:u3f (cx.wb bn) Q f loc4 σ4 h4)=>SPst.re (v:=f) (s':=(cx.wb bn).mk' h4 t4) (P:=u3f (cx.wb bn) Q) (P':=u3f cx Q) sub (fun _ _ _ _ q=>u3f.re sub q) ⟨h4,t4,own4,σ4,loc4,rfl,I4,L4.ext,L4.keep,R4,q⟩
   cases f with
   |next=>exact⟨rest'.length,Nat.lt_succ_self _,hP2 L4 q4⟩
   |cont=>exact⟨rest'.length,Nat.lt_succ_self _,hP2 L4 q4⟩
   |brk=>exact fin .next q4
   |ret v=>exact fin (.ret v) q4
end
end Mine
end
section
open PySem PySem.W PyProof.Rows PySem.Builtin.ObjectAttr
set_option maxRecDepth 20000
namespace Mine
section
variable {T:Tab} {cx:Cx T} {CS:u1n} {A:Around} {fs outer:List Env} {r:Nat} {env:Env} {nm:Nm} {sc:Sc} {loc loc2:Loc} {own own1 own':Addr→Option Addr} {σ σ1:Hp} {h h0 h1 h2 h':Heap} {t:Nat} {X Y:Addr→Prop} {M:Model}
variable {α β:Type} {P:α→Loc→Hp→Heap→Prop} {v:α} {s s':Shared}
theorem v0x {a C:Addr} {od:Option Addr} {vs:Array Value} {sl:Array (Option Value)} (e:h.get? a=some ⟨.ref C,od,.fields vs,sl⟩):Looks M h (typeOf (.ref a)) (.ref C):=
 (Looks.ld (part:=none) e).andThen .now
set_option tactic.hygienic true in
theorem x6s {C:Addr} {K:Frag} (hx:exmOne K (.ref C) (.ref C)=some true):subIn K (.ref C) (.type "BaseException")=some true∧kitCls K (.ref C) (.ref C)=some true:=by
 unfold exmOne at hx
 split at hx
 ·rename_i hb
  exact⟨beq_iff_eq.mp hb,hx⟩
 ·cases hx
theorem v9k {m:ME} (s1:SndE cx CS m):SndS cx CS (.rse m):=fun nm sc st c A outer r env loc own σ h t Q E H q=>by
 replace c:=x6y c;obtain⟨v,pos,rfl,c⟩:=c
 ·skip
  obtain⟨hr,q⟩:=q
  have hh:=H.around.hd hr
  show wpAny _ A (do standAt pos;raiseStmt env (some (do let v←eval v env;standAt pos;pure v)) none) _ _ _
  refine wpAny_bind (wpAny_standAt ?_)
  unfold raiseStmt
  dsimp only
  refine wpAny_bind (wpAny_bind ?_)
  refine u8a H (s1 nm sc v c A _ r env loc own σ h t _ _ H q) fun u own1 σ1 h1 t1 H1 x1 k1 tk p=>wpAny_bind (wpAny_standAt (wpAny_pure ?_))
  obtain⟨mv,rv,a,C,l,rfl,hs,hsub,q⟩:=p
  have:=rv.ref_inv;subst this
  refine u0a (H1.inv.objs a _ hs) fun oa zz2=>?_
  refine u1b zz2 fun od vs sl e tr rr=>?_
  refine u0a (x6s (cx.subs _ _ _ hsub)) fun hb hk=>?_
  have LT:=v0x (M:=model cx.prog cx.w) e
  have LS:Looks (model cx.prog cx.w) h1 (isSubtype (.ref C) (.type "BaseException")) true:=looks_subIn H1.inv.K hb
  have LK:=(kit_cls (M:=model cx.prog cx.w) H1.inv.K hk).1
  have hnt:∀{Q':Bool→Shared→Prop} {E':Value→Shared→Prop},Q' false (cx.mk' h1 t1)→wpAny (model cx.prog cx.w) A (isType (.ref a)) Q' E' (cx.mk' h1 t1):=by
   intro Q' E' hq
   simp only [isType,loadHead]
   exact wpAny_bind (wpAny_loadPart (s:=cx.mk' h1 t1) e (wpAny_pure hq))
  refine wpAny_bind (wpAny_pure ?_)
  dsimp only
  refine wpAny_bind (wpAny_holding ?_)
  unfold excFromValue isExcClass
  refine wpAny_bind (wpAny_bind (hnt ?_))
  simp only [Bool.false_eq_true,if_false]
  refine wpAny_pure ?_
  simp only [Bool.false_eq_true,if_false]
  refine wpAny_bind ?_
  show wpAny _ A (do isSubtype (←typeOf (.ref a)) (.type "BaseException")) _ _ _
  refine wpAny_bind (LT.at (LS.at ?_))
  simp only [if_true]
  refine wpAny_pure ?_
  refine wpAny_bind (hnt ?_)
  simp only [Bool.false_eq_true,if_false]
  unfold raisedInstance
  refine wpAny_bind (wpAny_bind (LT.at (wpAny_bind (LK.at ?_))))
  rw [if_pos (by decide)]
  refine wpAny_pure ?_
  refine wpAny_bind (u1f H1.inv hs fun h2 I2 k2=>?_)
  refine wpAny_raiseNew_none hh ?_
  exact SPst.up x1 k1.wide (SPst.up (.refl ..) k2.wide (SPst.here I2 (H1.rel.keep (.refl ..) k2 (H1.inv.tk0 k2)) ⟨a,C,l,rfl,hs,q⟩))
theorem w7m (R:ERel cx env sc loc own h) {a y:Addr} (e:own a=some y):¬u2f env sc a:=fun z=>by
 refine Or.elim z (fun zz506=>?_) (fun zz507=>?_)
 ·subst zz506
  rw [R.ownL]at e;cases e
 ·obtain⟨x,i,h1,h2,h3⟩:=zz507
  refine v2p (R.cells x i h1 (.inl h3)) fun c o' vo c1 c2 c3 c4 _=>?_
  rw [h2]at c1;cases c1
  rw [c4]at e;cases e
theorem ACtx.marked {h:Option Value} (a:ACtx A fs r):ACtx (A.mark h) fs 0:=by
 refine⟨fun z=>absurd rfl z,?_,a.frames,?_⟩
 ·have:=a.depth;show A.depth+3*0≤900;lia
 ·have:=a.units;show A.units+12*0≤9800;lia
theorem w3w {P':Prop} {e:Value} (z:SPst cx fs env sc own h (ExQ fun _ _ _=>False) e s'):P':=by
 obtain⟨_,_,_,_,_,_,_,_,_,_,_,_,_,_,_,z⟩:=z;exact z.elim
theorem w0k {γ:Type} (I:Inv cx fs own σ h) {a C:Addr} {l:List (Nat×MV)} (hs:σ a=some (.exc C l)) (tr:TrOn own h a) {what:String} {Q:γ→Shared→Prop} {E':Value→Shared→Prop}
  (k:∀h',Inv cx fs own σ h'→Keep fs own noX h h'→E' (.ref a) (cx.mk' h' t)):wpAny M A (PySem.passOn what (.ref a) env:Sem γ) Q E' (cx.mk' h t):=by
 refine u0a (I.objs a _ hs) fun oa zz3=>?_
 refine u1b zz3 fun od vs sl e tr' r=>?_
 refine Or.elim tr' (fun zz508=>?_) (fun zz509=>?_)
 ·obtain⟨_,tn⟩:=zz508
  refine u1c tr fun tb o z1 z2 z3=>?_
  exact absurd z3 (tn tb o z1 z2)
 ·obtain⟨tb,ot,ts,e1,e2,e3,e4,e5,e6,e7⟩:=zz509
  unfold PySem.passOn
  refine wpAny_bind (wpAny_field (s:=cx.mk' h t) e rfl e1 ?_)
  rw [if_neg (show¬(Value.ref tb==Value.none)=true from by simp)]
  first
   |exact wpAny_bind (wpAny_pure (wpAny_bind (u1f I hs fun h' I' k'=>wpAny_throw (k h' I' k'))))
   |exact wpAny_bind (u1f I hs fun h' I' k'=>wpAny_throw (k h' I' k'))
theorem v5s {b f:List MS} (sb:u8e cx CS b) (sf:u8e cx CS f):SndS cx CS (.tryF b f):=fun nm sc st c A outer r env loc own σ h t Q E H q=>by
 replace c:=x2d c;obtain⟨y,f0,fr,pos,rfl,c⟩:=c
 ·skip
  simp only [Bool.and_eq_true]at c
  have hfr:=H.around.frames
  have norm:∀(g:Flow) (loc1:Loc) (own1:Addr→Option Addr) (σ1:Hp) (h1:Heap) (t1:Nat),Inv cx (env::outer) own1 σ1 h1→OwnExt own own1 h→Keep (env::outer) own (u2f env sc) h h1→ERel cx env sc loc1 own1 h1→
    u3f cx (fun o loc1 σ1=>swps T CS r f loc1 σ1 (fun o' loc2 σ2=>match o' with|.next=>Q o loc2 σ2|_=>False) fun _ _ _=>False) g loc1 σ1 h1→
    wpAny (model cx.prog cx.w) A (execs (f0::fr) env) (fun g' s'=>match g' with|.next=>SPst cx (env::outer) env sc own h (u3f cx Q) g s'|g'=>SPst cx (env::outer) env sc own h (u3f cx Q) g' s')
     (notedBy (model cx.prog cx.w) A env (cameBackBy (model cx.prog cx.w) A env (SPst cx (env::outer) env sc own h (ExQ E)))) (cx.mk' h1 t1):=fun g loc1 own1 σ1 h1 t1 I1 x1 k1 R1 p=>by
   have fin:∀(o:Out),(∀loc2 σ2 (h2:Heap),TK cx.sy h1 h2→Q o loc2 σ2→u3f cx Q g loc2 σ2 h2)→swps T CS r f loc1 σ1 (fun o' loc2 σ2=>match o' with|.next=>Q o loc2 σ2|_=>False) (fun _ _ _=>False)→
     wpAny (model cx.prog cx.w) A (execs (f0::fr) env) (fun g' s'=>match g' with|.next=>SPst cx (env::outer) env sc own h (u3f cx Q) g s'|g'=>SPst cx (env::outer) env sc own h (u3f cx Q) g' s')
     (notedBy (model cx.prog cx.w) A env (cameBackBy (model cx.prog cx.w) A env (SPst cx (env::outer) env sc own h (ExQ E)))) (cx.mk' h1 t1):=fun o hq p=>by
    refine wpAny_mono (sf nm sc (f0::fr) c.2 A outer r env loc1 own1 σ1 h1 t1 _ _ ⟨H.around,H.stat,I1,R1⟩ p) (fun g' s2 p2=>?_) fun e' s' z=>w3w z
    obtain⟨h2,t2,own2,σ2,loc2,rfl,I2,x2,k2,R2,p2⟩:=p2
    cases g' with
    |next=>exact SPst.up x1 k1 ⟨h2,t2,own2,σ2,loc2,rfl,I2,x2,k2,R2,hq _ _ _ (tkX I1 R1 k2) p2⟩
    |cont=>exact p2.elim
    |brk=>exact p2.elim
    |ret v=>obtain⟨_,_,z⟩:=p2;exact z.elim
   cases g with
   |next=>exact fin .next (fun _ _ _ _ z=>z) p
   |cont=>exact fin .cont (fun _ _ _ _ z=>z) p
   |brk=>exact fin .brk (fun _ _ _ _ z=>z) p
   |ret v=>
    obtain⟨m,rm,p⟩:=p
    exact fin (.ret m) (fun _ _ _ tk z=>⟨m,rm.tk tk,z⟩) p
  refine wpAny_Try_finally ?_
  refine wpAny_mono (sb nm sc y c.1 A outer r env loc own σ h t _ _ H q) (fun g s1 p=>?_) fun e s1 p=>?_
  ·obtain⟨h1,t1,own1,σ1,loc1,rfl,I1,x1,k1,R1,p⟩:=p
   cases g with
   |next=>exact wpAny_execs_nil (norm .next loc1 own1 σ1 h1 t1 I1 x1 k1 R1 p)
   |cont=>exact norm .cont loc1 own1 σ1 h1 t1 I1 x1 k1 R1 p
   |brk=>exact norm .brk loc1 own1 σ1 h1 t1 I1 x1 k1 R1 p
   |ret v=>exact norm (.ret v) loc1 own1 σ1 h1 t1 I1 x1 k1 R1 p
  ·obtain⟨h1,t1,own1,σ1,loc1,rfl,I1,x1,k1,R1,a,C,l,rfl,hs,p⟩:=p
   refine u3v hfr I1 hs fun own2 h2 I2 x2 k2 tr2=>?_
   refine⟨ref_ne_byPass a,u3v hfr I2 hs fun own3 h3 I3 x3 k3 tr3=>?_⟩
   refine u1f I3 hs fun h4 I4 k4=>?_
   have R2:=R1.keep x2 k2 (I1.tk0 k2)
   have R3:=R2.keep x3 k3 (I2.tk0 k3)
   have R4:=R3.keep (.refl ..) k4 (I3.tk0 k4)
   have tr4:TrOn own3 h4 a:=tr3.keep (.refl ..) k4 fun _ _ z=>z
   refine wpAny_mono (sf nm sc (f0::fr) c.2 (A.mark (some (.ref a))) outer 0 env loc1 own3 σ1 h4 t1 _ _ ⟨H.around.marked,H.stat,I4,R4⟩ p) (fun g' s5 p5=>?_) fun e' s' z=>w3w z
   obtain⟨h5,t5,own5,σ5,loc5,rfl,I5,x5,k5,R5,p5⟩:=p5
   cases g' with
   |next=>
    refine u0a p5 fun zz5 p5=>?_
    refine u7o zz5 fun a' C' l' hz hs5=>?_
    cases hz
    have tr5:TrOn own5 h5 a:=tr4.keep x5 k5 fun b eb=>w7m R4 eb
    refine w0k I5 hs5 tr5 fun h6 I6 k6=>?_
    have R6:=R5.keep (.refl ..) k6 (I5.tk0 k6)
    exact SPst.up x1 k1 (SPst.up x2 k2.wide (SPst.up x3 k3.wide (SPst.up (.refl ..) k4.wide (SPst.up x5 k5 (SPst.up (.refl ..) k6.wide (SPst.here I6 R6 ⟨a,C',l',rfl,hs5,p5⟩))))))
   |cont=>exact p5.elim
   |brk=>exact p5.elim
   |ret v=>obtain⟨_,_,z⟩:=p5;exact z.elim
theorem w0s (S:EStat env nm) (I:Inv cx fs own σ h) (R:ERel cx env sc loc own h) {n:Str} {i:Nat} {pos:Pos} {Q:Unit→Shared→Prop} {E:Value→Shared→Prop} (hi:sc.lookup n=some i) (hk:nm.lookup n=some .local)
  (k:∀h' t',Inv cx fs own σ h'→ERel cx env sc (loc.set i none) own h'→Keep fs own (u2f env sc) h h'→TK cx.sy h h'→Q () (cx.mk' h' t')):wpAny M A (do bindName env n .none;unbindBehindTheSuite env n pos) Q E (cx.mk' h t):=by
 obtain⟨⟨ns,hns,hl⟩,oL,bL,cells,inj,scInj⟩:=R
 rw [←S.kindOf]at hk
 refine wpAny_nameGoes_keeps hk hns (w4j S.kind _) fun h' v hn' sb=>?_
 have ht:=sb.extBut
 refine u1b hns fun o0 es0 n0 e0 d0 _=>?_
 have old:h.get? env.locals=some o0:=e0
 refine u1b (id hn') fun o1 es1 n1 e1 d1 _=>?_
 obtain⟨I',tk⟩:=I.buts (X:=fun b=>b=env.locals) (h':=h') (fun a x=>by
  subst x
  refine⟨oL,bL,fun _=>⟨o1,es1,n1,e1,d1⟩,fun ys n e=>?_⟩
  rw [old]at e;cases e;cases d0) fun b o hb e=>ht b o hb e
 refine k h' _ I' ⟨⟨_,hn',fun y j mv g1 g2 g3=>?_⟩,oL,bL,fun y j g1 g2=>?_,inj,scInj⟩ ((Keep.refl ..).buts (Y:=fun b=>b=env.locals) (fun b o hb e=>ht b o hb e) fun a x=>.inl ⟨.inl x,fun o e=>by subst x;exact⟨o1,e1⟩⟩) tk
 ·refine Or.elim (u4d g2) (fun zz510=>?_) (fun zz511=>?_)
  ·obtain⟨_,z⟩:=zz510
   cases z
  ·obtain⟨z',z⟩:=zz511
   by_cases q:y=n
   ·subst q;rw [hi]at g1;cases g1;exact absurd rfl z'
   ·refine u0d (hl y j mv g1 z g3) fun u u1 u2=>?_
    exact⟨u,by simp only [if_neg q];exact u1,u2.tk tk⟩
 ·refine u7m (cells y j g1 g2) fun c o vo c1 c2 c3 c4 c5 c6 c8=>?_
  refine⟨c,o,vo,c1,ht c o c6 c2,c3,c4,c5,c6,fun mv hm=>?_⟩
  refine Or.elim (u4d hm) (fun zz512=>?_) (fun zz513=>?_)
  ·obtain⟨_,z⟩:=zz512
   cases z
  ·obtain⟨_,z⟩:=zz513
   refine u0d (c8 mv z) fun u u1 u2=>?_
   exact⟨u,u1,u2.tk tk⟩
theorem w9b {K:Frag} {c1 c2 cls:Value} {tp e:Addr} {n:Nat} {b1 b2:Bool} (X:K.In h) (LT:Looks M h (typeOf (.ref e)) cls) (hp:h.get? tp=some (u0z [c1,c2] n)) (x1:exmOne K cls c1=some b1) (x2:exmOne K cls c2=some b2):
  Looks M h (excMatches (.ref e) (.ref tp)) (b1||b2):=by
 intro A Q E s k₀ q
 obtain⟨hh,g,d,tk,os⟩:=s
 have k:∀b o,h.get? b=some o→hh.get? b=some o:=k₀
 have LT0:Looks M h (isInstance (.ref tp) (.type "tuple")) true:=((Looks.ld hp).andThen .now).andThen (Looks.of_pure isSubtype_tuple_tuple)
 refine u0a (exm_cls (M:=M) X x1) fun e1 S1=>?_
 have e1:=e1.keeps k
 have S1:=S1.keeps k
 refine u0a (exm_cls (M:=M) X x2) fun e2 S2=>?_
 have e2:=e2.keeps k
 have S2:=S2.keeps k
 have LT:=LT.keeps k
 have LT0:=LT0.keeps k
 have hp':=k _ _ hp
 unfold excMatches
 refine wpAny_bind (LT0.at ?_)
 dsimp only
 rw [if_pos rfl]
 first
  |refine wpAny_bind (wpAny_seqItems hp' rfl ?_)
  |refine wpAny_bind (wpAny_bind (wpAny_seqItems hp' rfl (wpAny_pure ?_)))
 dsimp only [Option.getD_some,Option.getD]
 cases b1<;>cases b2<;>((repeat (first|simp only [List.forIn_cons,List.forIn_nil,Bool.not_true,Bool.false_eq_true,if_false,if_true]|lk));exact q)
set_option tactic.hygienic true in
theorem w4z (I:Inv cx fs own σ h) {a C:Addr} {l:List (Nat×MV)} (hs:σ a=some (.exc C l)) {tv:MV} {v:Value} (rv:VRel cx.sy h tv v) (hit:w5j T tv C=true) {Q:Bool→Shared→Prop} {E':Value→Shared→Prop}
  (q:Q true (cx.mk' h t)):wpAny M A (excMatches (.ref a) v) Q E' (cx.mk' h t):=by
 refine u0a (I.objs a _ hs) fun oa zz6=>?_
 refine u7o zz6 fun od vs sl e _=>?_
 have LT:=v0x (M:=M) e
 have so:∀{m:MV} {b:Bool},subO T C m=some b→∃D,m=.con (.ref D)∧T.subs.lookup (C,D)=some b:=fun{m b} z=>by
  cases m with
  |con v=>cases v with
   |ref D=>exact⟨D,rfl,z⟩
   |_=>exact ns z
  |_=>exact ns z
 cases tv with
 |con v=>
  refine u0d (so (beq_iff_eq.mp hit)) fun D e z=>?_
  refine u0a rv.con_inv fun zz7 _=>?_
  subst zz7
  cases e
  exact(exm_one I.K LT (cx.subs _ _ _ z)).at q
 |tup xs=>
  match xs,hit with
  |[],hit=>exact(Bool.false_ne_true hit).elim
  |[_],hit=>exact(Bool.false_ne_true hit).elim
  |x1::x2::x3,hit=>
   refine u0a (Bool.and_eq_true_iff.mp hit) fun e3 hit2=>?_
   refine u1c (x1o hit2) fun b b' z1 z2 hit3=>?_
   refine u0d (so z1) fun D zz8 w1=>?_
   subst zz8
   refine u0d (so z2) fun D' zz9 w2=>?_
   subst zz9
   refine u1b rv.tup_inv fun tp ys n zz10 g r=>?_
   subst zz10
   obtain⟨y1,r1,rfl,p1,r⟩:=r.cons_inv
   obtain⟨y2,r2,rfl,p2,r⟩:=r.cons_inv
   obtain rfl:=List.isEmpty_iff.mp e3
   rw [r.nil_inv]at g
   refine u0a p1.con_inv fun zz13 _=>?_
   subst zz13
   refine u0a p2.con_inv fun zz14 _=>?_
   subst zz14
   have:=w9b (M:=M) I.K LT g (cx.subs _ _ _ w1) (cx.subs _ _ _ w2)
   rw [hit3]at this
   exact this.at q
 |_=>exact(Bool.false_ne_true hit).elim
theorem v5r {b:List MS} {ty:ME} {i:Nat} {hb:List MS} (sb:u8e cx CS b) (st':SndE cx CS ty) (sh:u8e cx CS hb):SndS cx CS (.tryX b ty i hb):=fun nm sc st c A outer r env loc own σ h t Q E H q=>by
 replace c:=x2c c;obtain⟨y,tt,n,hb0,hbr,pos,tpos,rfl,c⟩:=c
 ·skip
  simp only [beq_iff_eq]at c
  obtain⟨c1,c2,c3,c4,c5⟩:=c
  have hfr:=H.around.frames
  refine wpAny_Try_except ?_
  refine wpAny_mono (sb nm sc y c1 A outer r env loc own σ h t _ _ H q) (fun g s1 p=>?_) fun e s1 p=>?_
  ·cases g with
   |next=>exact wpAny_execs_nil p
   |cont=>exact p
   |brk=>exact p
   |ret v=>exact p
  ·obtain⟨h1,t1,own1,σ1,loc1,rfl,I1,x1,k1,R1,a,C,l,rfl,hs,p⟩:=p
   refine u3v hfr I1 hs fun own2 h2 I2 x2 k2 tr2=>?_
   refine u1f I2 hs fun h3 I3 k3=>?_
   have R2:=R1.keep x2 k2 (I1.tk0 k2)
   have R3:=R2.keep (.refl ..) k3 (I2.tk0 k3)
   have H3:Here cx (A.mark (some (.ref a))) (env::outer) 0 env nm sc loc1 own2 σ1 h3:=⟨H.around.marked,H.stat,I3,R3⟩
   refine wpAny_handleBy_cons (codeAny_handlers_test ?_) (by intro q;cases q)
   refine u0e (st' nm sc tt c2 (A.mark (some (.ref a))) _ 0 env loc1 own2 σ1 h3 t1 _ _ H3 p) (fun e' s' z=>?_) fun v own4 σ4 h4 t4 I4 x4 k4 p4=>?_
   ·obtain⟨_,_,_,_,_,_,_,_,_,_,_,_,_,z⟩:=z;exact z.elim
   obtain⟨tv,rv,a',C',l',hz,hs4,hit,hi,p4⟩:=p4
   cases hz
   refine w4z I4 hs4 rv hit ?_
   simp only [if_true]
   refine codeAny_handlers_suite_as (u1f I4 hs4 fun h5 I5 k5=>?_)
   have H4:=H3.go I4 x4 k4
   have R5:=H4.rel.keep (.refl ..) k5 (I4.tk0 k5)
   refine u2g H.stat I5 R5 c4 (.inl c5) (.mk_ref a) fun h6 t6 I6 R6 Hd tk6=>?_
   have k6:Keep (env::outer) own4 (u2f env sc) h5 h6:=(Keep.refl ..).hid Hd (fun a z=>.inl (u3q (fun y' hy=>by simp at hy;subst hy;exact⟨_,c4⟩) z))
   refine wpAny_mono (sh nm sc (hb0::hbr) c3 (A.mark (some (.ref a))) outer 0 env _ own4 σ4 h6 t6 _ _ ⟨H.around.marked,H.stat,I6,R6⟩ p4) (fun g s7 p7=>?_) fun e' s' z=>w3w z
   obtain⟨h7,t7,own7,σ7,loc7,rfl,I7,x7,k7,R7,p7⟩:=p7
   refine w0s H.stat I7 R7 c4 c5 fun h8 t8 I8 R8 k8 tk8=>?_
   refine SPst.up x1 k1 (SPst.up x2 k2.wide (SPst.up (.refl ..) k3.wide (SPst.up x4 k4.wide (SPst.up (.refl ..) k5.wide (SPst.up (.refl ..) k6 (SPst.up x7 k7 (SPst.up (.refl ..) k8 (SPst.here I8 R8 ?_))))))))
   cases g with
   |next=>exact p7
   |cont=>exact p7
   |brk=>exact p7
   |ret v=>obtain⟨m,rm,p7⟩:=p7;exact⟨m,rm.tk tk8,p7⟩
mutual
theorem sndS:∀(s:MS) (cx:Cx T),CSok cx CS→SndS cx CS s
 |.expr e,cx,hCS=>v5t (sndE e cx hCS)
 |.cont,cx,hCS=>v5u
 |.ret e,cx,hCS=>v9l (sndE e cx hCS)
 |.asg _ _,cx,hCS=>v9q (fun bn e=>sndE e (cx.wb bn) (hCS.wb bn)) fun bn e=>sndT e (cx.wb bn) (hCS.wb bn)
 |.aug _ _ _,cx,hCS=>v9p fun e=>sndE e cx hCS
 |.ite c a b,cx,hCS=>v9n (sndT c cx hCS) (u9x a cx hCS) (u9x b cx hCS)
 |.whl c b,cx,hCS=>v9j (sndT c cx hCS) (u9x b cx hCS)
 |.for _ _ e1 e2 b,cx,hCS=>v9o (sndE e1 cx hCS) (sndE e2 cx hCS) fun bn=>u9x b (cx.wb bn) (hCS.wb bn)
 |.rse e,cx,hCS=>v9k (sndE e cx hCS)
 |.tryF b f,cx,hCS=>v5s (u9x b cx hCS) (u9x f cx hCS)
 |.tryX b ty _ h,cx,hCS=>v5r (u9x b cx hCS) (sndE ty cx hCS) (u9x h cx hCS)
theorem u9x:∀(ss:List MS) (cx:Cx T),CSok cx CS→u8e cx CS ss
 |[],cx,hCS=>v9m
 |s::ss,cx,hCS=>v5v (sndS s cx hCS) (u9x ss cx hCS)
end
end
end Mine
end
section
open PySem PySem.W PyProof.Rows PySem.Builtin.ObjectAttr
set_option maxRecDepth 20000
namespace Mine
noncomputable def fd0:FuncData:={name:="",qualname:="",params:=⟨[],[],none,[],[],none,[]⟩,body:=.stmts [],scope:=default,globals:=0,closure:=[],defaults:=.none,kwdefaults:=.none,doc:=.none,pyModule:=.none,annotations:=none,code:=.none,closureTuple:=.none,builtins:=0}
noncomputable def fdD (d:Data):FuncData:=match d with
 |.func fd=>fd
 |_=>fd0
noncomputable def isFd (d:Data):Bool:=match d with
 |.func _=>true
 |_=>false
noncomputable def fdO (o:Option Obj):FuncData:=match o with
 |some o=>fdD o.data
 |none=>fd0
noncomputable def fdOf (K:Frag) (f:Addr):FuncData:=fdO (K.lookup f)
noncomputable def x0n (K:Frag) (f:Addr):Bool:=(K.lookup f).any fun o=>isFd o.data
set_option tactic.hygienic true in
theorem w8u {K:Frag} {f:Addr} (c:x0n K f=true):∃oc od osl,K.lookup f=some ⟨oc,od,.func (fdOf K f),osl⟩:=by
 refine u0d (any_some c) fun zz1 e c=>?_
 obtain⟨oc,od,d,osl⟩:=zz1
 cases d with
 |func fd=>
  have z:fdOf K f=fd:=congrArg fdO e
  exact⟨oc,od,osl,by rw [z];exact e⟩
 |_=>exact(Bool.false_ne_true c).elim
noncomputable def x4n (b:FuncBody) (p:List Stmt→Bool):Bool:=match b with
 |.stmts l=>p l
 |_=>false
noncomputable def scOk (ps:List Str) (sc:Sc) (names:Nm):Bool:=
 decide ps.Nodup && sc.take ps.length==ps.zip (List.range ps.length) && (sc.drop ps.length).all (fun x=>decide (ps.length≤x.2)) && decide (sc.map (·.2)).Nodup &&
 ps.all (fun x=>names.lookup x==some .local||(names.lookup x==some .cell && ((cellsFrom 0 names []).lookup x).isSome)) &&
 sc.all (fun x=>names.lookup x.1 !=some .free && (names.lookup x.1 !=some .cell||((cellsFrom 0 names []).lookup x.1).isSome))
noncomputable def w8l (K:Frag) (sy:List Str) (f:Addr) (ps:List Str) (sc:Sc) (ms:List MS):Bool:=
 x0n K f && (fdOf K f).globals==mainGlobals && (fdOf K f).builtins==builtinsNs && (fdOf K f).closure.isEmpty && codeIn K (fdOf K f).code (fdOf K f).qualname && (fdOf K f).scope.kind==.function &&
 !(fdOf K f).scope.isCoroutine && !(fdOf K f).scope.isGenerator && scOk ps sc (fdOf K f).scope.names && x4n (fdOf K f).body (u3o K sy (fdOf K f).scope.names sc ms)
section
variable {T:Tab} {cx:Cx T} {CS:u1n} {A:Around} {fs outer:List Env} {r:Nat} {env:Env} {nm:Nm} {sc:Sc} {loc loc2:Loc} {own own1 own':Addr→Option Addr} {σ σ1:Hp} {h h0 h1 h2 h':Heap} {t:Nat} {X Y:Addr→Prop} {M:Model}
set_option tactic.hygienic true in
theorem u7s (names:Nm) (n m:Nat) (a b:List (Str×Addr)) (x:Str) (e:a.map (·.1)=b.map (·.1)) (c:((cellsFrom n names a).lookup x).isSome=true):∃c,(cellsFrom m names b).lookup x=some c:=by
 induction names generalizing n m a b with
 |nil=>exact u0i (Option.isSome_iff_exists.mp c) fun y hy=>u0d (List.mem_map.mp (e▸List.mem_map.mpr ⟨_,u0x hy,rfl⟩:x ∈ b.map (·.1))) fun p hp z=>u5d (y:=p.2) (z▸hp)
 |cons p r ih=>
  have f:∀n acc,cellsFrom n (p::r) acc=if p.2==.cell then cellsFrom (n+1) r ((p.1,n)::acc)else cellsFrom n r acc:=fun _ _=>rfl
  rw [f]at c ⊢
  by_cases q:(p.2==NameKind.cell)=true
  ·rw [if_pos q]at c ⊢;exact ih (n+1) (m+1) ((p.1,n)::a) ((p.1,m)::b) (congrArg (p.1:: ·) e) c
  ·rw [if_neg q]at c ⊢;exact ih _ _ _ _ e c
theorem w6m (kindOf:Str→Option NameKind) (binds:List (Str×Value)):∀(m:Str→Option Value) (x:Str) (u:Value),(binds.map (·.1)).Nodup→kindOf x=some .local→((x,u)∈ binds→bindL kindOf binds m x=some u)∧(x ∉ binds.map (·.1)→bindL kindOf binds m x=m x):=by
 induction binds with
 |nil=>intro m x u _ _;exact⟨fun h=>(by cases h),fun _=>rfl⟩
 |cons p r ih=>
  intro m x u nd hk
  refine u0a (ih (if kindOf p.1=some .local then fun y=>if y=p.1 then some p.2 else m y else m) x u (List.nodup_cons.mp nd).2 hk) fun h1 h2=>⟨fun hm=>Or.elim (List.mem_cons.mp hm) (fun z=>?_) h1,fun hn=>(h2 fun z=>hn (.tail _ z)).trans ?_⟩
  ·subst z
   exact(h2 (List.nodup_cons.mp nd).1).trans (by rw [if_pos hk,if_pos rfl])
  ·by_cases q:kindOf p.1=some .local
   ·rw [if_pos q,if_neg (fun z=>hn (z▸ .head _):¬x=p.1)]
   ·rw [if_neg q]
theorem w6n (kindOf:Str→Option NameKind) (binds:List (Str×Value)):∀(m:Str→Option Value) (x:Str) (u:Value),(binds.map (·.1)).Nodup→kindOf x≠some .local→((x,u)∈ binds→bindC kindOf binds m x=some u)∧(x ∉ binds.map (·.1)→bindC kindOf binds m x=m x):=by
 induction binds with
 |nil=>intro m x u _ _;exact⟨fun h=>(by cases h),fun _=>rfl⟩
 |cons p r ih=>
  intro m x u nd hk
  refine u0a (ih (if kindOf p.1=some .local then m else fun y=>if y=p.1 then some p.2 else m y) x u (List.nodup_cons.mp nd).2 hk) fun h1 h2=>⟨fun hm=>Or.elim (List.mem_cons.mp hm) (fun z=>?_) h1,fun hn=>(h2 fun z=>hn (.tail _ z)).trans ?_⟩
  ·subst z
   exact(h2 (List.nodup_cons.mp nd).1).trans (by rw [if_neg hk,if_pos rfl])
  ·by_cases q:kindOf p.1=some .local
   ·rw [if_pos q]
   ·rw [if_neg q,if_neg (fun z=>hn (z▸ .head _):¬x=p.1)]
theorem Inv.dropFrame (I:Inv cx (env::fs) own σ h):Inv cx fs own σ h:=⟨I.base,I.ownd,I.ownr,I.objs',fun e he=>I.frames e (List.mem_cons_of_mem _ he),I.bans⟩
theorem w1m {ps:List Str} {us:List Value} {i:Nat} {x:Str} {u:Value} (e:ps[i]?=some x) (e':us[i]?=some u):(x,u)∈ ps.zip us:=by
 have:(ps.zip us)[i]?=some (x,u):=by rw [List.getElem?_zip_eq_some];exact⟨e,e'⟩
 exact List.mem_of_getElem? this
noncomputable def u9w (cx:Cx T) (r:Nat) (f:Value) (args:List MV) (σ:Hp) (Q E:MV→Hp→Prop):Prop:=
 ∀(A:Around) (fs:List Env) (own:Addr→Option Addr) (h:Heap) (t:Nat) (vs:List Value),ACtx A fs r→Inv cx fs own σ h→u0j cx.sy h args vs→
  codeAny (model cx.prog cx.w) A (.call f ⟨vs,[]⟩) (fun r s'=>match r with|.ok (.ret v)=>Pst cx fs noX own h (VQ cx Q) v s'|.ok _=>False|.error e=>Pst cx fs noX own h (EQ E) e s') (cx.mk' h t)
noncomputable def u0s (cx:Cx T) (r:Nat) (f:Value) (args:List MV) (σ:Hp) (Q E:MV→Hp→Prop):Prop:=∀bn,u9w (cx.wb bn) r f args σ Q E
theorem u0s.call {f:Value} {args:List MV} {Q E:MV→Hp→Prop} (c:u0s cx r f args σ Q E):u0p cx r f args σ Q E:=fun bn A fs own h t vs a I rv=>wpAny_call (c bn A fs own h t vs a I rv)
set_option tactic.hygienic true in
theorem y8c {f:Addr} {ps:List Str} {sc:Sc} {ms:List MS} (c:w8l cx.K T.sym f ps sc ms=true) {args margs:List MV} {n:Nat}
  (hb:∀h t (vs:List Value),cx.K.In h→u0j cx.sy h args vs→∃us,us.length=ps.length∧u0j cx.sy h margs us∧BindsTo (cx.mk' h t) (fdOf cx.K f) ⟨vs,[]⟩ (ps.zip us)) {Q E:MV→Hp→Prop}
  (q:swps T (u0p cx) r ms (margs.map some++List.replicate n none) σ (fun o _ σ'=>match o with|.ret v=>Q v σ'|.next=>Q .none σ'|_=>False) (fun x _ σ'=>E x σ')):
  u9w cx (r+1) (.ref f) args σ Q E:=by
 unfold w8l at c
 simp only [Bool.and_eq_true,beq_iff_eq,Bool.not_eq_true',List.isEmpty_iff]at c
 refine al10 c fun c1 c2 c3 c4 c5 c6 c7 c8 c9 c10=>?_
 refine u2e (w8u c1) fun oc od osl hK=>?_
 generalize hfd:fdOf cx.K f=fd at*
 obtain⟨body,hbody,c10⟩:∃body,fd.body=.stmts body∧u3o cx.K T.sym fd.scope.names sc ms body=true:=by
  clear hb q hfd
  cases z:fd.body with
  |stmts l=>rw [z]at c10;exact⟨l,rfl,c10⟩
  |expr e=>rw [z]at c10;exact(Bool.false_ne_true c10).elim
 intro A fs own h t vs ac I rv
 refine u1e (hb h t vs I.K rv) fun us ul ru hbind=>?_
 have ml:margs.length=ps.length:=by rw [←ul,ru.length]
 unfold scOk at c9
 simp only [Bool.and_eq_true,decide_eq_true_eq,beq_iff_eq,List.all_eq_true,Bool.or_eq_true,bne_iff_ne]at c9
 refine al6 c9 fun d1 d2 d3 d4 d5 d6=>?_
 have keys:(ps.zip us).map (·.1)=ps:=by rw [List.map_fst_zip];lia
 have hdep:=ac.depth
 have hun:=ac.units
 refine codeAny_call_function (fd:=fd) (body:=body) (by show A.depth<1000;lia) (I.K _ _ hK) rfl c7 c8 hbody (codeRec_of I.K c5) (hbind _ _ _ _ ?_)
 rw [c4]
 refine wpAny_newFunctionEnv_cells c6 (fun x hx=>?_) fun env he s' ic=>?_
 ·have hx1:x.1 ∈ ps:=by rw [←keys];exact List.mem_map.mpr ⟨x,hx,rfl⟩
  refine Or.elim (d5 x.1 hx1) (fun z=>?_) (fun zz503=>?_)
  ·exact .inl z
  ·obtain⟨z1,z2⟩:=zz503
   refine u0i (u7s fd.scope.names 0 ((cx.mk' h t).heap.objs.size+1) [] [] x.1 rfl z2) fun cc hc=>?_
   exact .inr ⟨z1,by rw [hc];rfl⟩
 refine u1m ic.done fun h1 t1 zz5 up=>?_
 subst zz5
 have up:∀b o,h.get? b=some o→h1.get? b=some o:=up
 refine⟨(I.top.nolimit).keeps up,codeAny_func ?_⟩
 have eL:env.locals=h.objs.size:=by rw [he];rfl
 have eF:env.frame=some h.objs.size:=by rw [he];rfl
 have eC:env.cells=cellsFrom (h.objs.size+1) fd.scope.names []:=by rw [he];rfl
 have eS:env.scope=fd.scope:=by rw [he];rfl
 have S:EStat env fd.scope.names:=⟨by rw [eS],by rw [eS];exact c6,by rw [he];exact c2,by rw [he];exact c3⟩
 refine u0a (I.grow up) fun I1 tk1=>?_
 have nL:h.get? h.objs.size=none:=get?_size h
 have ns1:=ic.toInCall.ns
 rw [eL]at ns1
 have ns1:h1.Ns h.objs.size (bindL env.kindOf (ps.zip us) fun _=>none):=ns1
 refine u1b (id ns1) fun oL esL epL gL dL _=>?_
 have gL:h1.get? h.objs.size=some oL:=gL
 have baseNone:∀{a:Addr},h.get? a=none→cx.base.get? a=none:=fun{a} e=>by
  cases w:cx.base.get? a with
  |none=>rfl
  |some o=>have:=I.base a o w;rw [e]at this;cases this
 have I2:Inv cx (env::fs) own σ h1:=by
  refine⟨I1.base,I1.ownd,I1.ownr,I1.objs',fun e he'=>?_,I1.bans⟩
  refine Or.elim (List.mem_cons.mp he') (fun zz504=>?_) (fun he'=>?_)
  ·subst zz504
   exact⟨_,oL,esL,epL,eF,baseNone nL,(I.fresh nL).2,gL,dL,by rw [S.kind];decide⟩
  ·exact I1.frames e he'
 have cellNew:∀x c,env.cells.lookup x=some c→h.get? c=none:=fun x c e=>Heap.get?_none_of_le (Nat.le_of_lt (by rw [←eL];exact ic.above x c (u0x e)))
 have us1:=ru.tk tk1
 have scGet:∀x i,sc.lookup x=some i→i<ps.length→ps[i]?=some x:=fun x i e hi=>by
  have hm:=u0x e
  rw [←List.take_append_drop ps.length sc]at hm
  refine Or.elim (List.mem_append.mp hm) (fun hm=>?_) (fun hm=>?_)
  ·rw [d2]at hm
   refine u0i (List.getElem?_of_mem hm) fun j hj=>?_
   rw [List.getElem?_zip_eq_some]at hj
   refine u0a hj fun z1 z2=>?_
   have:j=i:=by
    have hl:j<ps.length:=(List.getElem?_eq_some_iff.mp z1).1
    rw [List.getElem?_range hl]at z2
    exact Option.some.inj z2
   rw [←this];exact z1
  ·have:=d3 _ hm
   lia
 have locGet:∀(i:Nat) mv,(margs.map some++List.replicate n none)[i]?=some (some mv)→margs[i]?=some mv∧i<ps.length:=fun i mv e=>by
  by_cases hi:i<(margs.map some).length
  ·rw [List.getElem?_append_left hi,List.getElem?_map]at e
   simp only [List.length_map]at hi
   rw [Option.map_eq_some_iff]at e
   refine u0d e fun y hy hz=>?_
   cases hz
   exact⟨hy,by lia⟩
  ·rw [List.getElem?_append_right (by lia),List.getElem?_replicate]at e
   split at e<;>cases e
 have kindOf:∀x,env.kindOf x=fd.scope.names.lookup x:=S.kindOf
 have nd:((ps.zip us).map (·.1)).Nodup:=by rw [keys];exact d1
 have R1:ERel cx env sc (margs.map some++List.replicate n none) own h1:=by
  refine⟨⟨_,by rw [eL];exact ns1,fun x i mv g1 g2 g3=>?_⟩,by rw [eL];exact(I.fresh nL).2,by rw [eL];exact baseNone nL,fun x i g1 g2=>?_,fun x y c g1 g2=>?_,fun x y i g1 g2=>w2t d4 g1 g2⟩
  ·refine u0a (locGet i mv g2) fun z1 z2=>?_
   refine u0d (us1.get z1) fun u hu ruu=>?_
   exact⟨u,(w6m env.kindOf (ps.zip us) (fun _=>none) x u nd g3).1 (w1m (scGet x i g1 z2) hu),ruu⟩
  ·rw [kindOf]at g2
   have g2':fd.scope.names.lookup x=some .cell:=by
    refine Or.elim g2 (fun g2=>?_) (fun g2=>?_)
    ·exact g2
    ·exact absurd g2 (d6 (x,i) (u0x g1)).1
   have hs:=(d6 (x,i) (u0x g1)).2.resolve_left (fun z=>z g2')
   refine u0i (u7s fd.scope.names 0 (h.objs.size+1) [] [] x rfl hs) fun cc hc=>?_
   rw [←eC]at hc
   refine u0d (ic.cell x cc hc) fun oc' goc doc=>?_
   have gn:=cellNew x cc hc
   refine⟨cc,oc',_,hc,goc,doc,(I.fresh gn).2,baseNone gn,fun z=>?_,fun mv hm=>?_⟩
   ·have:=ic.above x cc (u0x hc)
    rw [z]at this
    exact Nat.lt_irrefl _ this
   ·refine u0a (locGet i mv hm) fun z1 z2=>?_
    refine u0d (us1.get z1) fun u hu ruu=>?_
    exact⟨u,(w6n env.kindOf (ps.zip us) (fun _=>none) x u nd (by rw [kindOf,g2'];decide)).1 (w1m (scGet x i g1 z2) hu),ruu⟩
  ·exact name_of_addr ic.apart (u0x g1) (u0x g2)
 have ac1:ACtx (A.deeper env) (env::fs) r:=by
  refine⟨fun z=>ac.hd (by lia),?_,?_,?_⟩
  ·show A.depth+1+3*r≤900;lia
  ·show A.frames.map (env:: ·)=some (env::fs);rw [ac.frames];rfl
  ·show A.units+3+12*r≤9800;lia
 have nX:∀a o,h.get? a=some o→¬u2f env sc a:=fun a o e z=>by
  refine Or.elim z (fun z=>?_) (fun zz505=>?_)
  ·rw [z,eL,nL]at e;cases e
  ·obtain⟨x,i,_,z,_⟩:=zz505
   rw [cellNew x a z]at e;cases e
 have back:∀{α β:Type} {P:β→Loc→Hp→Heap→Prop} {P':α→Hp→Heap→Prop} {v:α} {w:β} {s':Shared},(∀loc σ h,P w loc σ h→P' v σ h)→SPst cx (env::fs) env sc own h1 P w s'→Pst cx fs noX own h P' v s':=fun imp p=>by
  obtain⟨h',t',own',σ',loc',e,I',x',k',R',q'⟩:=p
  refine⟨h',t',own',σ',e,I'.dropFrame,⟨x'.up,fun a y e=>?_⟩,⟨fun a o e=>k'.live a o (up a o e),fun a o e n _=>?_,fun a o y e _ g=>k'.kls a o y e (nX a o g) (up a o g)⟩,imp _ _ _ q'⟩
  ·refine Or.elim (x'.new a y e) (fun z=>?_) (fun zz506=>?_)
   ·exact .inl z
   ·obtain⟨z1,z2⟩:=zz506
    refine .inr ⟨z1,?_⟩
    cases w:h.get? a with
    |none=>rfl
    |some o=>rw [up a o w]at z2;cases z2
  ·refine Or.elim (k'.same a o (up a o e) n (nX a o e)) (fun z=>?_) (fun zz507=>?_)
   ·exact .inl z
   ·obtain⟨⟨ev,hm,hf⟩,sl,z⟩:=zz507
    refine Or.elim (List.mem_cons.mp hm) (fun zz508=>?_) (fun hm=>?_)
    ·subst zz508
     rw [eF]at hf
     cases hf
     rw [nL]at e;cases e
    ·exact .inr ⟨⟨ev,hm,hf⟩,sl,z⟩
 refine wpAny_mono (u9x ms cx (fun _ _ _ _ _ _ z=>z:CSok cx (u0p cx)) fd.scope.names sc body c10 (A.deeper env) fs r env _ own σ h1 t1 _ _ ⟨ac1,S,I2,R1⟩ q) (fun g s2 p=>?_) fun e s2 p=>?_
 ·cases g with
  |next=>exact back (v:=Value.none) (fun loc σ h z=>⟨.none,.mk_none,z⟩) p
  |cont=>obtain⟨_,_,_,_,_,_,_,_,_,_,z⟩:=p;exact z.elim
  |brk=>obtain⟨_,_,_,_,_,_,_,_,_,_,z⟩:=p;exact z.elim
  |ret v=>exact back (v:=v) (fun loc σ h z=>by obtain⟨m,r,q⟩:=z;exact⟨m,r,q⟩) p
 ·obtain⟨h3,t3,own3,σ3,loc3,rfl,I3,x3,k3,R3,a,C,l,rfl,hs,p⟩:=p
  refine wpAny_bind (u3v ac1.frames I3 hs fun own4 h4 I4 x4 k4 tr4=>?_)
  refine u1f I4 hs fun h5 I5 k5=>?_
  have R4:=R3.keep x4 k4 (I3.tk0 k4)
  have R5:=R4.keep (.refl ..) k5 (I4.tk0 k5)
  exact back (P:=ExQ fun x _ σ'=>E x σ') (fun loc σ h z=>by obtain⟨a,C,fs,ea,hs,q⟩:=z;exact⟨a,C,fs,ea,hs,q⟩) (SPst.up x3 k3 (SPst.up x4 k4.wide (SPst.up (.refl ..) k5.wide (SPst.here I5 R5 ⟨a,C,l,rfl,hs,p⟩))))
end
end Mine
end
section
open PySem PySem.W PyProof.Rows PySem.Builtin.ObjectAttr
set_option maxRecDepth 20000
namespace Mine
section
variable {T:Tab} {cx:Cx T} {CS:u1n} {A:Around} {fs outer:List Env} {r:Nat} {env:Env} {nm:Nm} {sc:Sc} {loc loc2:Loc} {own own1 own':Addr→Option Addr} {σ σ1:Hp} {h h0 h1 h2 h':Heap} {t:Nat} {X Y:Addr→Prop} {M:Model}
theorem v0w {c:Addr} {rest:List Value} (ac:ACtx A fs (r+1)):ACtx (A.under (.builtin "type.__call__" ⟨.ref c::rest,[]⟩)) fs r:=by
 have hd:=ac.depth
 have hu:=ac.units
 have w:(Code.builtin "type.__call__" ⟨.ref c::rest,[]⟩).weight≤3:=by
  unfold Code.weight
  have e1:(Code.builtin "type.__call__" ⟨.ref c::rest,[]⟩).frames=0:=rfl
  have e2:(Code.builtin "type.__call__" ⟨.ref c::rest,[]⟩).isCaller=false:=rfl
  rw [e1,e2]
  split<;>split<;>simp
 have u:(Code.builtin "type.__call__" ⟨.ref c::rest,[]⟩).cUnits≤12:=by
  have:(Code.builtin "type.__call__" ⟨.ref c::rest,[]⟩).cUnits=1:=rfl
  lia
 refine⟨fun z=>ac.hd (by lia),?_,?_,?_⟩
 ·show A.depth+_+3*r≤900;lia
 ·rw [show(A.under (.builtin "type.__call__" ⟨.ref c::rest,[]⟩)).frames=A.frames from rfl]
  exact ac.frames
 ·show A.units+_+12*r≤9800;lia
theorem Inv.make (I:Inv cx fs own σ h) (C:Addr):∃own',Inv cx fs own' (σ.put (h.objs.size+1) (.inst C [])) ((h.push emptyDict).push (instObj C h.objs.size))∧
  Keep fs own noX h ((h.push emptyDict).push (instObj C h.objs.size))∧OwnExt own own' h:=by
 have n1:h.get? h.objs.size=none:=get?_size h
 have n2:h.get? (h.objs.size+1)=none:=Heap.get?_none_of_le (Nat.le_succ _)
 have up:∀b o,h.get? b=some o→((h.push emptyDict).push (instObj C h.objs.size)).get? b=some o:=fun b o e=>Heap.get?_push_of_some _ (Heap.get?_push_of_some _ e)
 have gd:((h.push emptyDict).push (instObj C h.objs.size)).get? h.objs.size=some emptyDict:=Heap.get?_push_of_some _ (Heap.get?_push_size h rfl)
 have gx:((h.push emptyDict).push (instObj C h.objs.size)).get? (h.objs.size+1)=some (instObj C h.objs.size):=by
  have:=Heap.get?_push_size (h.push emptyDict) (o:=instObj C h.objs.size) rfl
  rwa [Heap.size_push]at this
 have ow:∀b y,u7f own (h.objs.size+1) h.objs.size b=some y→own b=some y∨((b=h.objs.size+1∨b=h.objs.size)∧y=h.objs.size+1):=fun b y q=>by
  unfold u7f at q
  by_cases z:b=h.objs.size+1∨b=h.objs.size
  ·rw [if_pos z]at q;exact .inr ⟨z,(Option.some.inj q).symm⟩
  ·rw [if_neg z]at q;exact .inl q
 have fr1:=(I.fresh n1).2
 have fr2:=(I.fresh n2).2
 have x:OwnExt own (u7f own (h.objs.size+1) h.objs.size) h:=by
  refine⟨fun b y q=>?_,fun b y q=>?_⟩
  ·unfold u7f
   by_cases z:b=h.objs.size+1∨b=h.objs.size
   ·refine Or.elim z (fun zz501=>?_) (fun zz502=>?_)
    ·subst zz501
     rw [fr2]at q;cases q
    ·subst zz502
     rw [fr1]at q;cases q
   ·rw [if_neg z];exact q
  ·refine Or.elim (ow b y q) (fun z=>?_) (fun zz503=>?_)
   ·exact .inl z
   ·obtain⟨z,_⟩:=zz503
    refine Or.elim z (fun zz504=>?_) (fun zz505=>?_)
    ·subst zz504
     exact .inr ⟨fr2,n2⟩
    ·subst zz505
     exact .inr ⟨fr1,n1⟩
 have none_a:∀b,own b≠some (h.objs.size+1):=I.noOwner n2
 have base1:=u1r I
 have base2:cx.base.get? (h.objs.size+1)=none:=by
  cases w:cx.base.get? (h.objs.size+1)with
  |none=>rfl
  |some o=>have:=I.base _ o w;rw [n2]at this;cases this
 obtain⟨I',k⟩:=I.upd (mo:=.inst C []) (a:=h.objs.size+1) x (fun b y q=>(ow b y q).imp id fun z=>z.2) (fun b o e _=>up b o e) (fun b q=>by
   refine Or.elim (ow b _ q) (fun z=>?_) (fun zz506=>?_)
   ·exact absurd z (none_a b)
   ·obtain⟨z,_⟩:=zz506
    refine Or.elim z (fun zz507=>?_) (fun zz508=>?_)
    ·subst zz507
     exact⟨base2,_,gx,w7i C⟩
    ·subst zz508
     exact⟨base1,_,gd,v4w⟩) (fun b o q=>absurd q (none_a b)) (by unfold u7f;rw [if_pos (.inl rfl)])
  (fun tk=>⟨h.objs.size,[],0,gx,by unfold u7f;rw [if_pos (.inr rfl)],Nat.ne_of_lt (Nat.lt_succ_self _),gd,rfl⟩)
 exact⟨_,I',k,x⟩
theorem x2a {C fI:Addr} (hm:makesIn cx.K C=true) (hi:findIn cx.K (.ref C) "__init__" =some (some (.ref fI))) (hf:typeIn cx.K (.ref fI)=some (.type "function")) {args:List MV} {Q E:MV→Hp→Prop}
  (q:∀a,σ a=none→u9w cx r (.ref fI) (.ref a::args) (σ.put a (.inst C [])) (fun v σ'=>v=.none∧Q (.ref a) σ') E):u9w cx (r+1) (.ref C) args σ Q E:=by
 intro A fs own h t vs ac I rv
 refine u1e (I.make C) fun own' I' k x=>?_
 refine make_core (makes_of I.K hm) (looks_findIn I.K hi) (fun self=>bind_fn I.K self hf) (.inl rfl) ?_
 have tk:=I.tk0 k
 refine codeAny_mono (q (h.objs.size+1) (I.fresh (Heap.get?_none_of_le (Nat.le_succ _))).1 _ fs own' _ t _ (v0w ac) I' (.cons (.mk_ref _) (rv.tk tk))) fun r s' z=>?_
 rcases r with e|(v|_|_|_)
 ·exact Pst.up x k z
 ·exact z.elim
 ·exact z.elim
 ·exact z.elim
 ·obtain⟨h',t',own2,σ',e,I2,x2,k2,m,rm,rfl,q'⟩:=z
  exact⟨rm.none_inv,h',t',own2,σ',e,I2,x.trans k x2,k.trans x k2,.ref _,.mk_ref _,q'⟩
theorem w0r {C fI:Addr} (hm:makesIn cx.K C=true) (hi:findIn cx.K (.ref C) "__init__" =some (some (.ref fI))) (hf:typeIn cx.K (.ref fI)=some (.type "function")) {args:List MV} {Q E:MV→Hp→Prop}
  (q:∀a,σ a=none→u0s cx r (.ref fI) (.ref a::args) (σ.put a (.inst C [])) (fun v σ'=>v=.none∧Q (.ref a) σ') E):u0s cx (r+1) (.ref C) args σ Q E:=
 fun bn=>x2a (cx:=cx.wb bn) hm hi hf fun a h=>q a h bn
end
end Mine
end
section
open PySem
set_option maxRecDepth 100000
set_option maxHeartbeats 4000000
namespace Mine
section
variable {M:Model} {A:Around} {E:Value→Shared→Prop} {h:Heap} {g:Array GenState} {d:Drawn} {t:Nat} {os:OsState}
variable {nm q:Str} {C N:Addr} {bs bm:List Value} {hdct:Bool} {sn:List Str} {sub:List Value} {ab:Bool} {col:Option Bool} {dd:Option Addr} {k0 k1 k2 k3 k5:Option Value}
theorem v9d (hB:bm.contains (.type "Exception")=true) {rest:List Value} {Q:Unit→Shared→Prop} (hC:h.get? C=some (excClassObj nm q C N bs bm hdct sn sub ab col dd k0 k1 k2 k3 k5 "Exception.__new__"))
  (hq:Q () ⟨h,g,d,t,os⟩):wpAny M A (checkBuiltinCall "Exception.__new__" ⟨.ref C::rest,[]⟩) Q E ⟨h,g,d,t,os⟩:=by
 have Fn:=F.excBase_Exception
 have hcont:(Value.ref C::bm).contains (.type "Exception")=true:=by rw [List.contains_cons,hB,Bool.or_true]
 have hstar:=Fn.noStar
 simp only [checkBuiltinCall,Fn.newKind,Fn.newSplit,Fn.newRow]
 repeat (first|refine wpAny_loadPart_at hC ?_|(refine wpAny_isSubtype_exc hC ?_;rw [hcont])|refine wpAny_staticBase_exc hC ?_|refine wpAny_madeBy_exc hC ?_|simp only [bne_self_eq_false,Bool.false_eq_true,if_false]|wp_step)
 exact hq
end
section
variable {prog:Program} {w:World} {A:Around} {R:Result→Shared→Prop} {h:Heap} {g:Array GenState} {d:Drawn} {t:Nat} {os:OsState}
variable {nm q:Str} {C N:Addr} {bs bm bmB:List Value} {hdct:Bool} {sn:List Str} {sub:List Value} {ab:Bool} {col:Option Bool} {dd:Option Addr} {k0 k1 k2 k3 k5:Option Value}
theorem xnew (hB:bm.contains (.type "Exception")=true) (hA':bm.contains (.type "AttributeError")=false) (hN':bm.contains (.type "NameError")=false) {rest:List Value} (hC:h.get? C=some (excClassObj nm q C N bs bm hdct sn sub ab col dd k0 k1 k2 k3 k5 "Exception.__new__"))
  (hq:R (.ok (.ret (.ref (h.objs.size+1)))) ⟨(h.push {cls:=.type "tuple",data:=.seq rest.toArray}).push
   {cls:=.ref C,data:=.fields #[.ref h.objs.size,.none,.none,.none,.bool false,.none]},g,d,t,os⟩) (hrest:rest.length≤sizeLine:=by size_fits):
  codeAny (model prog w) A (.builtin "Exception.__new__" ⟨.ref C::rest,[]⟩) R ⟨h,g,d,t,os⟩:=by
 have Fn:=F.excBase_Exception
 have hends:=Fn.ends
 have hcB:(Value.ref C::bm).contains (.type "Exception")=true:=by rw [List.contains_cons,hB,Bool.or_true]
 have hcA:(Value.ref C::bm).contains (.type "AttributeError")=false:=by rw [List.contains_cons,hA'];rfl
 have hcN:(Value.ref C::bm).contains (.type "NameError")=false:=by rw [List.contains_cons,hN'];rfl
 refine codeAny_builtinAt Fn.entry ?_
 unfold Builtin.«BaseException.__new__»
 refine wpAt_bind ?_
 show wpAt _ _ _ (stack>>=_) _ _ _
 refine wpAt_bind (wpAt_stack fun p below=>wpAt_of_wpAny ?_)
 wp_walk
 refine wpAt_of_wpAny ?_
 rw [Fn.owner]
 repeat (first|with_reducible refine wpAny_madeHere_exc Fn.canon hC ?_|with_reducible refine wpAny_loadPart_at hC ?_|(with_reducible refine wpAny_isSubtype_exc hC ?_;first|rw [hcB]|rw [hcA]|rw [hcN])|wp_step)
 show R _ _
 rw [Heap.size_push]
 exact hq
end
end Mine
end
section
open PySem PySem.W PyProof.Rows PySem.Builtin.ObjectAttr
set_option maxRecDepth 100000
set_option maxHeartbeats 4000000
namespace Mine
noncomputable def clsB (d:Data) (p:ClassData→Bool):Bool:=match d with
 |.cls cd=>p cd
 |_=>false
inductive ExcSh (K:Frag) (C:Addr):Prop where
 |mk (nm qn:_) (N:_) (bs bm:_) (hd:_) (sn:_) (sub:_) (ab:_) (col:_) (dd:_) (k0 k1 k2 k3 k5:_) (e:K.lookup C=some (excClassObj nm qn C N bs bm hd sn sub ab col dd k0 k1 k2 k3 k5 "Exception.__new__"))
   (h1:bm.contains (.type "Exception")=true) (h2:bm.contains (.type "AttributeError")=false) (h3:bm.contains (.type "NameError")=false)
section
variable {prog:Program} {w:World} {A:Around} {R:Result→Shared→Prop} {h:Heap} {g:Array GenState} {d:Drawn} {t:Nat} {os:OsState}
noncomputable abbrev u5q (C tp:Addr):Obj:={cls:=.ref C,data:=.fields #[.ref tp,.none,.none,.none,.bool false,.none]}
theorem w9c {K:Frag} (X:K.In h) (hs:ExcSh K C) (hcall:specialIn K (.ref C) "__call__" =some (some (.builtin "type.__call__"))) (htyp:instIn K (.ref C) (.type "type")=some true) (hself:subIn K (.ref C) (.ref C)=some true)
  {rest:List Value} {fI:Addr} (hi:findIn K (.ref C) "__init__" =some (some (.ref fI))) (hf:typeIn K (.ref fI)=some (.type "function")) (hrest:rest.length≤sizeLine)
  (hq:codeAny (model prog w) (A.under (.builtin "type.__call__" ⟨.ref C::rest,[]⟩)) (.call (.ref fI) ⟨.ref (h.objs.size+1)::rest,[]⟩) (InitBack (h.objs.size+1) R)
   ⟨(h.push {cls:=.type "tuple",data:=.seq rest.toArray}).push (u5q C h.objs.size),g,d,t,os⟩):
  codeAny (model prog w) A (.call (.ref C) ⟨rest,[]⟩) R ⟨h,g,d,t,os⟩:=by
 obtain⟨nm,qn,N,bs,bm,hd,sn,sub,ab,col,dd,k0,k1,k2,k3,k5,ho,hB,hA',hN'⟩:=hs
 have hC:=X _ _ ho
 have call:Looks (model prog w) h (specialOf (.ref C) "__call__") (some (.builtin "type.__call__")):=looks_specialIn X hcall
 have typ:Looks (model prog w) h (isInstance (.ref C) (.type "type")) true:=looks_instIn X htyp
 have made:Looks (model prog w) h (Bind.madeBy (.ref C)) (some "Exception.__new__"):=fun A Q E s k q=>by
  obtain⟨hh,g',d',t',os'⟩:=s
  exact wpAny_madeBy_exc (k _ _ hC) q
 have selfL:Looks (model prog w) h (isSubtype (.ref C) (.ref C)) true:=looks_subIn X hself
 refine codeAny_of_tree ?_
 show wpAny _ _ (callAny (.ref C) _) _ _ _
 refine nd_load hC ?_
 show wpAny _ _ (callAny.viaDunder (.ref C) _) _ _ _
 unfold callAny.viaDunder
 refine wpAny_bind (call.at ?_)
 dsimp only
 rw [tc_bind]
 refine wpAny_bind (wpAny_pure (wpAny_bind (wpAny_pure ?_)))
 refine wpAny_pure (a:=Fin.again (.call (.builtin "type.__call__") ⟨.ref C::rest,[]⟩)) (And.intro rfl ?_)
 refine codeAny_call_builtin_at (Code.quiet_builtin _ (by decide+kernel)) entry_typeCall (check_slot tc_kind tc_split typ (tc_args _ _ _) ?_)
 unfold Builtin.«type.__call__»
 have hm:Looks (model prog w) h (mroOf (.ref C)) (.ref C::bm):=((Looks.ld (part:=none) hC).andThen .now).andThen .now
 repeat (first|simp only [List.isEmpty_cons,Bool.false_eq_true,if_false]|with_reducible refine wpAny_call ?_|lk)
 refine codeAny_call_builtin_code (Code.quiet_builtin _ F.excBase_Exception.quiet) (v9d hB hC ?_)
 refine xnew hB hA' hN' hC ?_ hrest
 have k:∀b o,h.get? b=some o→((h.push {cls:=.type "tuple",data:=.seq rest.toArray}).push (u5q C h.objs.size)).get? b=some o:=fun b o e=>Heap.get?_push_of_some _ (Heap.get?_push_of_some _ e)
 have hx:((h.push {cls:=.type "tuple",data:=.seq rest.toArray}).push (u5q C h.objs.size)).get? (h.objs.size+1)=some (u5q C h.objs.size):=by heap_get
 have t1:Looks (model prog w) ((h.push {cls:=.type "tuple",data:=.seq rest.toArray}).push (u5q C h.objs.size)) (typeOf (.ref (h.objs.size+1))) (.ref C):=(Looks.ld hx).andThen .now
 have s1:=selfL.keeps k
 have i1:=(looks_findIn (M:=model prog w) X hi).keeps k
 have b1:=(bind_fn (M:=model prog w) X (.ref (h.objs.size+1)) hf).keeps k
 show wpAny _ _ _ _ _ _
 unfold isInstance callSpecial? specialOf
 repeat (first|with_reducible refine wpAny_call ?_|lk)
 refine codeAny_mono hq fun r s' z=>?_
 rcases r with e|(v|_|_|_)<;>first|exact z|exact z.elim|skip
 obtain⟨rfl,z⟩:=z
 exact wpAny_pure (wpAny_pure z)
end
end Mine
end
section
open PySem PySem.W PyProof.Rows PySem.Builtin.ObjectAttr
set_option maxRecDepth 20000
namespace Mine
section
variable {T:Tab} {cx:Cx T} {CS:u1n} {A:Around} {fs outer:List Env} {r:Nat} {env:Env} {nm:Nm} {sc:Sc} {loc loc2:Loc} {own own1 own':Addr→Option Addr} {σ σ1:Hp} {h h0 h1 h2 h':Heap} {t:Nat} {X Y:Addr→Prop} {M:Model}
noncomputable def v1i (K:Frag) (C fI:Addr):Bool:=
 specialIn K (.ref C) "__call__" ==some (some (.builtin "type.__call__")) && instIn K (.ref C) (.type "type")==some true && subIn K (.ref C) (.ref C)==some true &&
 findIn K (.ref C) "__init__" ==some (some (.ref fI)) && typeIn K (.ref fI)==some (.type "function")
theorem Inv.makeExc (I:Inv cx fs own σ h) (C:Addr) (rest:List Value):∃own',Inv cx fs own' (σ.put (h.objs.size+1) (.exc C [])) ((h.push {cls:=.type "tuple",data:=.seq rest.toArray}).push (u5q C h.objs.size))∧
  Keep fs own noX h ((h.push {cls:=.type "tuple",data:=.seq rest.toArray}).push (u5q C h.objs.size))∧OwnExt own own' h:=by
 refine u0a (I.push_any {cls:=.type "tuple",data:=.seq rest.toArray}) fun I1 k1=>?_
 have sz:(h.push {cls:=.type "tuple",data:=.seq rest.toArray}).objs.size=h.objs.size+1:=Heap.size_push ..
 generalize hh:h.push {cls:=.type "tuple",data:=.seq rest.toArray}=hA at*
 have n:=get?_size hA
 have gx:(hA.push (u5q C h.objs.size)).get? hA.objs.size=some (u5q C h.objs.size):=Heap.get?_push_size hA rfl
 have none_a:=I1.noOwner n
 obtain⟨I2,k2,x⟩:=I1.alloc (mo:=.exc C []) (h':=hA.push (u5q C h.objs.size)) n (u1r I1) (fun b o e=>Heap.get?_push_of_some _ e) gx (w7i C)
  (fun tk=>⟨none,_,_,gx,.inl ⟨rfl,fun t' o q g=>by
   unfold u1k at q
   by_cases z:t'=hA.objs.size
   ·subst z
    rw [gx]at g;cases g
    intro z;cases z
   ·rw [if_neg z]at q;exact absurd q (none_a t')⟩,.inl ⟨rfl,rfl⟩⟩)
 rw [sz]at I2 x
 exact⟨_,I2,k1.trans (.refl own h) k2,OwnExt.trans (.refl own h) k1 x⟩
theorem x8a {C fI:Addr} (c1:ExcSh cx.K C) (c:v1i cx.K C fI=true) {args:List MV} (hl:args.length≤1000) {Q E:MV→Hp→Prop}
  (q:∀a,σ a=none→u9w cx r (.ref fI) (.ref a::args) (σ.put a (.exc C [])) (fun v σ'=>v=.none∧Q (.ref a) σ') E):u9w cx (r+1) (.ref C) args σ Q E:=by
 unfold v1i at c
 simp only [Bool.and_eq_true,beq_iff_eq]at c
 refine al5 c fun c2 c3 c4 c5 c6=>?_
 intro A fs own h t vs ac I rv
 refine u1e (I.makeExc C vs) fun own' I' k x=>?_
 have tk:=I.tk0 k
 refine w9c I.K c1 c2 c3 c4 c5 c6 (by rw [rv.length];exact Nat.le_trans hl (by decide)) ?_
 refine codeAny_mono (q (h.objs.size+1) (I.fresh (Heap.get?_none_of_le (Nat.le_succ _))).1 _ fs own' _ t _ (v0w ac) I' (.cons (.mk_ref _) (rv.tk tk))) fun r s' z=>?_
 rcases r with e|(v|_|_|_)
 ·exact Pst.up x k z
 ·exact z.elim
 ·exact z.elim
 ·exact z.elim
 ·obtain⟨h',t',own2,σ',e,I2,x2,k2,m,rm,rfl,q'⟩:=z
  exact⟨rm.none_inv,h',t',own2,σ',e,I2,x.trans k x2,k.trans x k2,.ref _,.mk_ref _,q'⟩
theorem w5f {C fI:Addr} (c1:ExcSh cx.K C) (c:v1i cx.K C fI=true) {args:List MV} (hl:args.length≤1000) {Q E:MV→Hp→Prop}
  (q:∀a,σ a=none→u0s cx r (.ref fI) (.ref a::args) (σ.put a (.exc C [])) (fun v σ'=>v=.none∧Q (.ref a) σ') E):u0s cx (r+1) (.ref C) args σ Q E:=
 fun bn=>x8a (cx:=cx.wb bn) c1 c hl fun a h=>q a h bn
theorem w7w {a:Addr} {xs:List MV} (hs:σ a=some (.list xs)) (hl:xs.length≤u0t) {Q E:MV→Hp→Prop} (q:Q (.int xs.length) σ):u0p cx r (.builtin "len") [.ref a] σ Q E:=by
 intro bn
 generalize cx.wb bn=cx
 intro A fs own h t vs ac I rv
 refine u1c rv.cons_inv fun v vs' zz2 r1 r2=>?_
 subst zz2
 rw [r2.nil_inv,r1.ref_inv]
 refine u0a (I.objs a _ hs) fun _ zz3=>?_
 refine u1m zz3 fun ys n g rs=>?_
 have l:=rs.length
 refine PyProof.Rows.len_list (s:=cx.mk' h t) (u2r g) ?_ ?_
 ·simp only [List.size_toArray,l];unfold u0t at hl;lia
 ·have e:((ys.toArray.size:Nat):Int)=(xs.length:Int):=by simp [l]
  rw [e]
  exact u0r I (.mk_int _ _) q
theorem u9r {a:Addr} {xs:List MV} {x:MV} (hs:σ a=some (.list xs)) (hl:xs.length≤u0t) {Q E:MV→Hp→Prop} (q:Q .none (σ.put a (.list (xs++[x])))):u0p cx r (.builtin "list.append") [.ref a,x] σ Q E:=by
 intro bn
 generalize cx.wb bn=cx
 intro A fs own h t vs ac I rv
 refine u1c rv.cons_inv fun v vs' zz4 r1 r2=>?_
 subst zz4
 obtain⟨u,vs'',rfl,r2,r3⟩:=r2.cons_inv
 rw [r3.nil_inv,r1.ref_inv]
 obtain⟨oa,ys,n,g,rs⟩:=I.objs a _ hs
 have l:=rs.length
 refine v5f g (by rw [l];exact hl) fun h' n' g' hk=>?_
 obtain⟨I',k⟩:=I.store (h':=h') (mo':=.list (xs++[x])) hs (fun b o e1 e2=>hk b o (fun z=>by subst z;exact e2 oa) e1)
  (fun b o eb gg=>by
   by_cases z:b=a
   ·subst z;rw [g]at gg;cases gg;exact⟨_,g',rfl⟩
   ·exact⟨o,hk b o z gg,rfl⟩) (fun tk=>⟨ys++[u],n',g',(rs.tk tk).append (.cons (r2.tk tk) .nil)⟩)
 exact⟨h',t,own,_,rfl,I',.refl ..,k,.none,.mk_none,q⟩
theorem v8a {a:Addr} {xs:List MV} {x:MV} (hs:σ a=some (.list (xs++[x]))) (hl:xs.length<u0t) {Q E:MV→Hp→Prop} (q:Q x (σ.put a (.list xs))):u0p cx r (.builtin "list.pop") [.ref a] σ Q E:=by
 intro bn
 generalize cx.wb bn=cx
 intro A fs own h t vs ac I rv
 refine u1c rv.cons_inv fun v vs' zz7 r1 r2=>?_
 subst zz7
 rw [r2.nil_inv,r1.ref_inv]
 refine u0a (I.objs a _ hs) fun oa zz8=>?_
 refine u1m zz8 fun ys n g rs=>?_
 refine u1c rs.snoc_inv fun ys' u zz9 ry ru=>?_
 subst zz9
 have l:=ry.length
 refine call_meets (s:=cx.mk' h t) F.slot_list_pop ⟨_,g,rfl⟩ F.entry_list_pop (F.args_list_pop_1 _) (PySem.MeetsSeq.list_pop_last a (ys'++[u]).toArray n u (by simp) (by simp;unfold u0t at hl;rw [l];rw [sizeLine_eq];lia)) ⟨g,?_⟩
 have g':=Heap.get?_update_self (Obj.mapSeq fun xs=>xs.eraseIdxIfInBounds ((ys'++[u]).toArray.size- 1)) g rfl
 have e:(ys'++[u]).toArray.eraseIdxIfInBounds ((ys'++[u]).toArray.size- 1)=ys'.toArray:=by
  simp [Array.eraseIdxIfInBounds,List.eraseIdx_append_of_length_le]
 have oth:∀b,b≠a→(h.update a (Obj.mapSeq fun xs=>xs.eraseIdxIfInBounds ((ys'++[u]).toArray.size- 1))).get? b=h.get? b:=fun b nb=>Heap.get?_update_other _ _ (Ne.symm nb)
 obtain⟨I',k⟩:=I.store (h':=h.update a (Obj.mapSeq fun xs=>xs.eraseIdxIfInBounds ((ys'++[u]).toArray.size- 1))) (mo':=.list xs) hs (fun b o e1 e2=>(oth b fun z=>by subst z;exact e2 oa).trans e1)
  (fun b o eb gg=>by
   by_cases z:b=a
   ·subst z;rw [g]at gg;cases gg;exact⟨_,g',rfl⟩
   ·exact⟨o,(oth b z).trans gg,rfl⟩) (fun tk=>⟨ys',_,by rw [←e];exact g',ry.tk tk⟩)
 exact⟨_,t,own,_,rfl,I',.refl ..,k,x,ru.tk (I.tk0 k),q⟩
theorem v3r {a:Addr} {xs:List MV} (hs:σ a=some (.list xs)) (hl:xs.length≤u0t) {Q E:MV→Hp→Prop} (q:Q .none (σ.put a (.list xs.reverse))):u0p cx r (.builtin "list.reverse") [.ref a] σ Q E:=by
 intro bn
 generalize cx.wb bn=cx
 intro A fs own h t vs ac I rv
 refine u1c rv.cons_inv fun v vs' zz10 r1 r2=>?_
 subst zz10
 rw [r2.nil_inv,r1.ref_inv]
 refine u0a (I.objs a _ hs) fun oa zz11=>?_
 refine u1m zz11 fun ys n g rs=>?_
 have l:=rs.length
 refine call_meets (s:=cx.mk' h t) F.slot_list_reverse ⟨_,g,rfl⟩ F.entry_list_reverse (F.args_list_reverse_1 _) (PySem.AutoSeq1.list_reverse_list_0 a ys.toArray n (by simp;unfold u0t at hl;rw [l];exact hl)) ⟨g,?_⟩
 have g':=Heap.get?_update_self (Obj.mapSeq fun xs=>xs.reverse) g rfl
 have e:ys.toArray.reverse=ys.reverse.toArray:=by simp
 have oth:∀b,b≠a→(h.update a (Obj.mapSeq fun xs=>xs.reverse)).get? b=h.get? b:=fun b nb=>Heap.get?_update_other _ _ (Ne.symm nb)
 obtain⟨I',k⟩:=I.store (h':=h.update a (Obj.mapSeq fun xs=>xs.reverse)) (mo':=.list xs.reverse) hs (fun b o e1 e2=>(oth b fun z=>by subst z;exact e2 oa).trans e1)
  (fun b o eb gg=>by
   by_cases z:b=a
   ·subst z;rw [g]at gg;cases gg;exact⟨_,g',rfl⟩
   ·exact⟨o,(oth b z).trans gg,rfl⟩) (fun tk=>⟨ys.reverse,_,by rw [←e];exact g',(rs.tk tk).reverse⟩)
 exact⟨_,t,own,_,rfl,I',.refl ..,k,.none,.mk_none,q⟩
end
end Mine
end
section
open PySem PySem.W PyProof.Rows PySem.Builtin.ObjectAttr
set_option maxRecDepth 20000
namespace Mine
section
variable {T:Tab} {cx:Cx T} {CS:u1n} {A:Around} {fs outer:List Env} {r:Nat} {env:Env} {nm:Nm} {sc:Sc} {loc loc2:Loc} {own own1 own':Addr→Option Addr} {σ σ1:Hp} {h h0 h1 h2 h':Heap} {t:Nat} {X Y:Addr→Prop} {M:Model}
theorem u4p (I:Inv cx fs own σ h) (hk:∀b o,h.get? b=some o→h'.get? b=some o) {m:MV} {v:Value} {Q:MV→Hp→Prop} (rv:VRel cx.sy h' m v) (q:Q m σ):
  Pst cx fs noX own h (VQ cx Q) v (cx.mk' h' t):=by
 refine u0a (I.grow hk) fun I' tk=>?_
 refine⟨h',t,own,σ,rfl,I',.refl ..,⟨fun a o e=>⟨o,hk _ _ e⟩,fun a o e _ _=>.inl (hk _ _ e),fun a o _ _ _ e=>⟨o,hk _ _ e,rfl⟩⟩,m,rv,q⟩
set_option tactic.hygienic true in
theorem w7t {a b:Int} {Q E:MV→Hp→Prop} (q:Q (.int (if b>a then b else a)) σ):u0p cx (r+1) (.builtin "max") [.int a,.int b] σ Q E:=by
 intro bn
 generalize cx.wb bn=cx
 intro A fs own h t vs ac I rv
 obtain⟨v,vs',rfl,r1,r2⟩:=rv.cons_inv
 obtain⟨u,vs'',rfl,r2,r3⟩:=r2.cons_inv
 obtain⟨t1,rfl⟩:=r1.int_inv
 obtain⟨t2,rfl⟩:=r2.int_inv
 rw [r3.nil_inv]
 refine max_two_ints (s:=cx.mk' h t) (ac.hd (by lia)) fun h' tk hk=>?_
 split
 ·rename_i z;rw [if_pos z]at q;exact u4p I hk (.mk_int _ _) q
 ·rename_i z;rw [if_neg z]at q;exact u4p I hk (.mk_int _ _) q
set_option tactic.hygienic true in
theorem w7q {a b:Int} {Q E:MV→Hp→Prop} (q:Q (.int (if b<a then b else a)) σ):u0p cx (r+1) (.builtin "min") [.int a,.int b] σ Q E:=by
 intro bn
 generalize cx.wb bn=cx
 intro A fs own h t vs ac I rv
 obtain⟨v,vs',rfl,r1,r2⟩:=rv.cons_inv
 obtain⟨u,vs'',rfl,r2,r3⟩:=r2.cons_inv
 obtain⟨t1,rfl⟩:=r1.int_inv
 obtain⟨t2,rfl⟩:=r2.int_inv
 rw [r3.nil_inv]
 refine min_two_ints (s:=cx.mk' h t) (ac.hd (by lia)) fun h' tk hk=>?_
 split
 ·rename_i z;rw [if_pos z]at q;exact u4p I hk (.mk_int _ _) q
 ·rename_i z;rw [if_neg z]at q;exact u4p I hk (.mk_int _ _) q
theorem v2b {vs:List Value} {ks:List Int} (l:vs.length=ks.length) (f:∀(j:Nat) (v:Value),vs[j]?=some v→∃k t,ks[j]?=some k∧v=Value.int k t):IntsAre vs ks:=by
 induction vs generalizing ks with
 |nil=>cases ks with
  |nil=>exact .nil
  |cons _ _=>cases l
 |cons v vs ih=>cases ks with
  |nil=>cases l
  |cons k ks=>exact u1m (f 0 v rfl) fun k' t e z=>z▸Option.some.inj e▸ .cons _ _ (ih (Nat.succ.inj l) fun j u e=>f (j+1) u e)
theorem w7z {sy:Sy} {kvs:List (Int×MV)} {l:List (Int×Value)} (r:KvI sy h kvs l):l.map (·.1)=kvs.map (·.1):=by
 induction kvs generalizing l with
 |nil=>rw [show l=[]from r];rfl
 |cons x kvs ih=>exact u1c r fun v l' e _ r=>e▸congrArg (x.1:: ·) (ih r)
theorem w0d {a:Addr} {kvs:List (Int×MV)} (hs:σ a=some (.dI kvs)) (hl:kvs.length<64) {Q E:MV→Hp→Prop}
  (q:∀(a':Addr) (ns:List Int),σ a'=none→ns.Perm (kvs.map (·.1))→ns.Pairwise (·≤·)→Q (.ref a') (σ.put a' (.list (ns.map MV.int)))):u0p cx (r+1) (.builtin "sorted") [.ref a] σ Q E:=by
 intro bn
 generalize cx.wb bn=cx
 intro A fs own h t vs ac I rv
 refine u1c rv.cons_inv fun v vs' zz820 r1 r2=>?_
 subst zz820
 rw [r2.nil_inv,r1.ref_inv]
 refine u0a (I.objs a _ hs) fun _ zz821=>?_
 obtain⟨hsys,l,hd,kr⟩:=zz821
 have lk:=w7z kr
 have ll:l.length=kvs.length:=by have:=congrArg List.length lk;simpa using this
 refine u0i hd.dictAt fun ep hat=>?_
 refine Calls.call_function_entry kind_sorted plain_sorted entry_sorted (args_sorted1 _) ?_
 unfold Builtin.«sorted»
 refine wpAny_bind (m:=checkCount "sorted" 1 1 _) (wpAny_pure ?_)
 refine wpAny_bind (kdu_collect (A:=A.in1) (s:=cx.mk' h t) (kdl_dict (knd:=intKind cx.prog cx.w) (kvs:=l) (ep:=ep) hsys) (ac.hd (by lia)) hat (by rw [sizeLine_eq];lia) fun h' tk acc hk hacc=>?_)
 have hk:∀b o,h.get? b=some o→h'.get? b=some o:=hk
 have al:acc.toList.length=kvs.length:=by rw [Array.length_toList,hacc.1,ll]
 have hI:IntsAre acc.toList (kvs.map (·.1)):=v2b (by rw [al,List.length_map]) fun j v e=>by
  refine u1m (hacc.2 j v (by rw [←Array.getElem?_toList];exact e)) fun k x e1 e2=>?_
  refine u0i (Value.isInt_shape e2) fun t' zz822=>?_
  subst zz822
  refine⟨k,t',?_,rfl⟩
  rw [←lk,List.getElem?_map,e1];rfl
 refine wpAny_bind (wpAny_newList ?_ (by rw [al,sizeLine_eq];lia))
 have hoL:(h'.push (seqObj "list" acc.toList.toArray 0)).get? h'.objs.size=some (seqObj "list" acc.toList.toArray 0):=Heap.get?_push_size _ rfl
 refine wpAny_bind (wpAny_holding (wpAny_call_entry slot_list_sort ⟨_,hoL,rfl⟩ entry_list_sort (list_sort_tree hoL hI (by lia) fun out ns' a1 a2 a3=>⟨_,rfl,?_⟩) (args_list_sort _)))
 refine wpAny_pure ⟨_,rfl,?_⟩
 refine u0a (I.grow hk) fun I1 tk1=>?_
 refine u0i (sortedHeap_at (out:=out) hoL) fun e he=>?_
 have old:∀b o,h'.get? b=some o→(sortedHeap (h'.push (seqObj "list" acc.toList.toArray 0)) h'.objs.size acc.toList out).get? b=some o:=fun b o e=>by
  have lt:=Heap.lt_size e
  rw [sortedHeap_old (Nat.ne_of_lt lt) (by rw [Heap.size_push];exact Nat.lt_succ_of_lt lt)]
  exact Heap.get?_push_of_some _ e
 have kp:Keep fs own noX h h':=⟨fun a o e=>⟨o,hk _ _ e⟩,fun a o e _ _=>.inl (hk _ _ e),fun a o _ _ _ e=>⟨o,hk _ _ e,rfl⟩⟩
 refine u2k (I1.alloc (mo:=.list (ns'.map MV.int)) (get?_size h') (u1r I1) old he v8i fun tk=>⟨out.toList,e,by simpa [W.listOf,seqObj] using he,v8o a1⟩) fun I2 k2 x2=>?_
 exact⟨_,tk,_,_,rfl,I2,OwnExt.trans (.refl own h) kp x2,Keep.trans (.refl own h) kp k2,.ref h'.objs.size,.mk_ref _,q _ _ (I1.fresh (get?_size h')).1 a2 a3⟩
theorem w3i {sy:Sy} {ns:List Int} {ys:List Value} (r:u0j sy h (ns.map MV.int) ys):∃xs:List (Int×Tok),ys=xs.map (fun p=>.int p.1 p.2)∧xs.map (·.1)=ns:=by
 induction ns generalizing ys with
 |nil=>exact⟨[],r.nil_inv,rfl⟩
 |cons n ns ih=>exact u1c r.cons_inv fun v vs z r1 r2=>u0i r1.int_inv fun t z'=>u0d (ih r2) fun xs z2 e=>⟨(n,t)::xs,z.trans (z'▸z2▸rfl),congrArg (n:: ·) e⟩
theorem w4d {a:Addr} {ns:List Int} (hs:σ a=some (.list (ns.map MV.int))) (hn:ns≠[]) {Q E:MV→Hp→Prop} (q:∀M,M ∈ ns→(∀i ∈ ns,i≤M)→Q (.int M) σ):u0p cx (r+1) (.builtin "max") [.ref a] σ Q E:=by
 intro bn
 generalize cx.wb bn=cx
 intro A fs own h t vs ac I rv
 refine u1c rv.cons_inv fun v vs' zz826 r1 r2=>?_
 subst zz826
 rw [r2.nil_inv,r1.ref_inv]
 refine u0a (I.objs a _ hs) fun _ zz827=>?_
 obtain⟨ys,n,g,rs⟩:=zz827
 refine u0d (w3i rs) fun xs zz828 zz829=>?_
 subst zz828
 subst zz829
 have e0:(xs.map fun p=>Value.int p.1 p.2).toArray=intItems xs.toArray:=by unfold intItems;simp
 have hsz:0<xs.length:=by cases xs with
  |nil=>exact absurd rfl hn
  |cons _ _=>exact Nat.succ_pos _
 refine max_intList (s:=cx.mk' h t) (xs:=xs.toArray) (ac.hd (by lia)) (e0▸u2r g) hsz fun v h' tk hv hk=>?_
 refine u0i (intItems_at hv) fun t' zz830=>?_
 subst zz830
 refine u0a (argBest_gt (numAt xs.toArray) (xs.toArray.size- 1)) fun h1 h2=>?_
 refine u4p I hk (.mk_int _ _) (q _ ?_ fun i hi=>?_)
 ·rw [numAt_eq];exact getD_mem (by rw [List.length_map];exact Nat.lt_of_le_of_lt h1 (Nat.pred_lt (Nat.ne_of_gt hsz)))
 ·refine u0d (mem_getD hi) fun j hj zz831=>?_
  subst zz831
  rw [List.length_map]at hj
  rw [←numAt_eq (xs:=xs.toArray)];exact h2 j (Nat.le_pred_of_lt hj)
theorem v5l {a:Addr} {xs:List MV} (hs:σ a=some (.list xs)) (hl:xs.length≤u0t) {Q E:MV→Hp→Prop} (q:Q (.tup xs) σ):u0p cx r (.type "tuple") [.ref a] σ Q E:=by
 intro bn
 generalize cx.wb bn=cx
 intro A fs own h t vs ac I rv
 refine u1c rv.cons_inv fun v vs' zz832 r1 r2=>?_
 subst zz832
 rw [r2.nil_inv,r1.ref_inv]
 refine u0a (I.objs a _ hs) fun _ zz833=>?_
 obtain⟨ys,n,g,rs⟩:=zz833
 refine call_tuple_list (s:=cx.mk' h t) (u2r g) (fun h' hk=>?_) (by rw [List.size_toArray,rs.length,sizeLine_eq];exact hl)
 refine u0a (I.grow hk) fun I1 tk1=>?_
 have kp:Keep fs own noX h h':=⟨fun a o e=>⟨o,hk _ _ e⟩,fun a o e _ _=>.inl (hk _ _ e),fun a o _ _ _ e=>⟨o,hk _ _ e,rfl⟩⟩
 exact Pst.up (.refl ..) kp (u8w (cx:=cx) (X:=noX) (t:=t) I1 (rs.tk tk1) q)
theorem w0p {a:Addr} {xs:List MV} (hs:σ a=some (.list xs)) (hl:xs.length≤u0t) {Q E:MV→Hp→Prop} (q:newP (.list xs) σ Q):u0p cx r (.type "list") [.ref a] σ Q E:=by
 intro bn
 generalize cx.wb bn=cx
 intro A fs own h t vs ac I rv
 refine u1c rv.cons_inv fun v vs' zz834 r1 r2=>?_
 subst zz834
 rw [r2.nil_inv,r1.ref_inv]
 refine u0a (I.objs a _ hs) fun _ zz835=>?_
 obtain⟨ys,n,g,rs⟩:=zz835
 refine call_list_seq (s:=cx.mk' h t) a (.inl rfl) g rfl rfl (fun h' c' hk g'=>?_) (by rw [List.size_toArray,rs.length,sizeLine_eq];exact hl)
 refine u2k (I.alloc (mo:=.list xs) (h':=h') (get?_size h) (u1r I) hk g' v8i fun tk=>⟨ys,c',g',rs.tk tk⟩) fun I' k x=>?_
 exact⟨_,t,_,_,rfl,I',x,k,.ref h.objs.size,.mk_ref _,q _ (I.fresh (get?_size h)).1⟩
end
end Mine
end
section
open PySem PySem.W PyProof.Rows
set_option maxRecDepth 100000
namespace Mine
structure PsOk (fd:FuncData) (ps:List Str):Prop where
 po:fd.params.posonlyargs=[]
 ar:fd.params.args.map (·.arg)=ps
 va:fd.params.vararg=none
 ko:fd.params.kwonlyargs=[]
 kw:fd.params.kwarg=none
noncomputable def u4y:List (Str×Value)→List (Str×Value)→List (Str×Value)
 |sl,[]=>sl
 |sl,x::r=>u4y (if(sl.lookup x.1).isNone then sl++[x]else sl) r
theorem v1f {x:Str} {l:List (Str×Value)} (h:x ∈ l.map (·.1)):(l.lookup x).isNone=false:=by
 induction l with
 |nil=>cases h
 |cons p r ih=>
  rw [List.lookup_cons]
  cases q:x==p.1 with
  |true=>rfl
  |false=>exact ih ((List.mem_cons.mp h).resolve_left (beq_eq_false_iff_ne.mp q))
theorem v4a {x:Str} {l:List (Str×Value)} (h:x ∉ l.map (·.1)):(l.lookup x).isNone=true:=by
 induction l with
 |nil=>rfl
 |cons p r ih=>
  rw [List.map_cons,List.mem_cons,not_or]at h
  rw [List.lookup_cons,beq_eq_false_iff_ne.mpr h.1]
  exact ih h.2
theorem u6j {x:Str×Value} {r sl:List (Str×Value)}:u4y sl (x::r)=u4y (if(sl.lookup x.1).isNone then sl++[x]else sl) r:=rfl
theorem v1m:∀(l1 l2 sl:List (Str×Value)),u4y sl (l1++l2)=u4y (u4y sl l1) l2
 |[],_,_=>rfl
 |_::r,l2,sl=>v1m r l2 _
theorem u9t:∀(l sl:List (Str×Value)),(∀x ∈ l,x.1 ∈ sl.map (·.1))→u4y sl l=sl
 |[],_,_=>rfl
 |x::r,sl,h=>by
  rw [u6j,v1f (h x (.head _))]
  exact u9t r sl fun y hy=>h y (.tail _ hy)
theorem w1j (l sl:List (Str×Value)) (nd:(l.map (·.1)).Nodup) (h:∀x ∈ l,x.1 ∉ sl.map (·.1)):u4y sl l=sl++l:=by
 induction l generalizing sl with
 |nil=>exact(List.append_nil sl).symm
 |cons x r ih=>
  rw [List.map_cons,List.nodup_cons]at nd
  rw [u6j,v4a (h x (.head _)),if_pos rfl]
  refine(ih _ nd.2 fun y hy z=>?_).trans (List.append_assoc ..)
  rw [List.map_append]at z
  exact(List.mem_append.mp z).elim (h y (.tail _ hy)) fun z=>nd.1 (List.mem_map.mpr ⟨y,hy,List.mem_singleton.mp z⟩)
theorem w8o {α β:Type} {f g:α→Option β} (l:List α) (h:∀x ∈ l,f x=g x):l.filterMap f=l.filterMap g:=by
 induction l with
 |nil=>rfl
 |cons x r ih=>rw [List.filterMap_cons,List.filterMap_cons,h x (.head _),ih fun y hy=>h y (.tail _ hy)]
theorem w0t (ps:List Str) (xs:List Value) (nd:ps.Nodup) (h:xs.length=ps.length):ps.filterMap (fun n=>((ps.zip xs).lookup n).map (n,·))=ps.zip xs:=by
 induction ps generalizing xs with
 |nil=>rfl
 |cons p ps ih=>cases xs with
  |nil=>cases h
  |cons x xs=>
   rw [List.nodup_cons]at nd
   rw [List.zip_cons_cons,List.filterMap_cons,List.lookup_cons,beq_self_eq_true]
   refine congrArg ((p,x):: ·) ((w8o ps fun n hn=>?_).trans (ih xs nd.2 (Nat.succ.inj h)))
   rw [List.lookup_cons,beq_eq_false_iff_ne.mpr fun z=>nd.1 (by rw [←show n=p from z];exact hn)]
theorem v7l {ps:List Str} {vs:List Value} (h1:vs.length≤ps.length):ps.zip vs=(ps.take vs.length).zip vs:=by
 have tl:(ps.take vs.length).length=vs.length:=by rw [List.length_take,Nat.min_eq_left h1]
 have:=@List.zip_append _ _ (ps.take vs.length) (ps.drop vs.length) vs [] tl
 rwa [List.take_append_drop,List.append_nil,List.zip_nil_right,List.append_nil]at this
theorem v8k {ps:List Str} {vs:List Value} (h1:vs.length≤ps.length):(ps.zip vs).map Prod.fst=ps.take vs.length:=by
 rw [v7l h1]
 exact List.map_fst_zip (Nat.le_of_eq (by rw [List.length_take,Nat.min_eq_left h1]))
theorem w2x {ps:List Str} {vs ds:List Value} (nd:ps.Nodup) (h1:vs.length≤ps.length) (h2:ps.length≤vs.length+ds.length) (h3:ds.length≤ps.length):
  u4y (ps.zip vs) ((ps.drop (ps.length- ds.length)).zip ds)=ps.zip (vs++ds.drop (vs.length+ds.length- ps.length)):=by
 have z1:ps.length- ds.length+ds.length=ps.length:=Nat.sub_add_cancel h3
 have z2:ps.length- ds.length≤vs.length:=Nat.sub_le_iff_le_add.mpr h2
 generalize ps.length- ds.length=f at z1 z2 ⊢
 have z3:ps.length- f=ds.length:=by rw [←z1,Nat.add_sub_cancel_left]
 have e:vs.length+ds.length- ps.length=vs.length- f:=by rw [←z1,Nat.add_sub_add_right]
 have z4:f+(vs.length- f)=vs.length:=Nat.add_sub_of_le z2
 rw [e]
 generalize vs.length- f=k at z4 ⊢
 clear e h2 h3
 have z5:ps.length- vs.length=ds.length- k:=by rw [←z4,←z1,Nat.add_sub_add_left]
 have tl:(ps.take vs.length).length=vs.length:=by rw [List.length_take,Nat.min_eq_left h1]
 have s1:(ps.drop f).zip ds=((ps.drop f).take k).zip (ds.take k)++(ps.drop vs.length).zip (ds.drop k):=by
  conv=>lhs;rw [←List.take_append_drop k (ps.drop f),←List.take_append_drop k ds]
  rw [List.zip_append (by rw [List.length_take,List.length_take,List.length_drop,z3]),List.drop_drop,z4]
 have s3:=v7l h1
 have s2:ps.zip (vs++ds.drop k)=ps.zip vs++(ps.drop vs.length).zip (ds.drop k):=by
  rw [s3]
  conv=>lhs;rw [←List.take_append_drop vs.length ps]
  exact List.zip_append tl
 have keys:(ps.zip vs).map (·.1)=ps.take vs.length:=v8k h1
 have a1:u4y (ps.zip vs) (((ps.drop f).take k).zip (ds.take k))=ps.zip vs:=by
  refine u9t _ _ fun x hx=>?_
  rw [keys]
  have m:=(List.of_mem_zip (show(x.1,x.2)∈ _ from hx)).1
  rw [List.take_drop,z4]at m
  exact(List.drop_sublist _ _).subset m
 rw [s1,v1m,a1,s2,w1j]
 ·rw [show(fun x:Str×Value=>x.1)=Prod.fst from rfl,List.map_fst_zip (by rw [List.length_drop,List.length_drop,z5];exact Nat.le_refl _)]
  exact nd.sublist (List.drop_sublist _ _)
 ·intro x hx
  rw [keys]
  have m:x.1 ∈ ps.drop vs.length:=(List.of_mem_zip (show(x.1,x.2)∈ _ from hx)).1
  intro z
  have:=nd
  rw [←List.take_append_drop vs.length ps,List.nodup_append]at this
  exact this.2.2 _ z _ m rfl
theorem w5r {a d p:Nat} (h1:a≤p) (h2:p≤a+d) (h3:d≤p):a+(d-(a+d- p))=p:=by
 have hk:a+d- p≤d:=Nat.sub_le_iff_le_add.mpr (by rw [Nat.add_comm a d];exact Nat.add_le_add_left h1 d)
 rw [←Nat.add_sub_assoc hk,Nat.sub_sub_self h2]
theorem u8l {α:Type} {M:Model} {A:Around} {E:Value→Shared→Prop} {s:Shared} {c:Prop} [Decidable c] {a b:Sem α} {Q:α→Shared→Prop} (h:¬c) (k:wpAny M A b Q E s):wpAny M A (if c then a else b) Q E s:=by rw [if_neg h];exact k
theorem w6w {α:Type} {M:Model} {A:Around} {E:Value→Shared→Prop} {s:Shared} {a b:Sem α} {Q:α→Shared→Prop} (h:a=b) (k:wpAny M A b Q E s):wpAny M A a Q E s:=h▸k
theorem w9p {s:Shared} {fd:FuncData} {ps:List Str} {vs ds:List Value} (ok:PsOk fd ps) (nd:ps.Nodup) (hd:(fd.defaults=.none∧ds=[])∨∃T o n,fd.defaults=.ref T∧s.heap.get? T=some o∧o.data=.seq ds.toArray n)
  (h1:vs.length≤ps.length) (h2:ps.length≤vs.length+ds.length) (h3:ds.length≤ps.length):BindsTo s fd ⟨vs,[]⟩ (ps.zip (vs++ds.drop (vs.length+ds.length- ps.length))):=by
 obtain⟨_,_,⟨po,ar,va,ko,kd,kw,df⟩,_,_,_,_,dfl,_⟩:=fd
 obtain⟨rfl,har,rfl,rfl,rfl⟩:=ok
 subst har
 intro M A E Q q
 have cont:∀(k:Option (Array Value)→Sem (List (Str×Value))),(∀o:Option (Array Value),(o.getD #[]).toList=ds→wpAny M A (k o) Q E s)→wpAny M A (seqItems? dfl>>=k) Q E s:=fun k hk=>by
  rcases hd with⟨hd,rfl⟩|⟨T,o,n,hd,ho,hs⟩
  ·rw [show dfl=.none from hd]
   exact wpAny_bind (m:=seqItems? .none) (wpAny_pure (a:=none) (hk none rfl))
  ·rw [show dfl=.ref T from hd]
   exact wpAny_bind (wpAny_seqItems ho hs (hk _ rfl))
 refine wpAny_bind (wpAny_pure ?_)
 refine cont _ fun o ho=>?_
 clear cont hd
 subst ho
 generalize (o.getD #[]).toList=ds at*
 have n2:ds.drop (ds.length-(List.map (fun x:Arg=>x.arg) ar).length)=ds:=by rw [Nat.sub_eq_zero_of_le h3,List.drop_zero]
 have nm:(List.filter (fun n=>(List.lookup n ((List.map (fun x:Arg=>x.arg) ar).zip vs)).isNone) (List.take ((List.map (fun x:Arg=>x.arg) ar).length- ds.length) (List.map (fun x:Arg=>x.arg) ar)))=[]:=by
  rw [List.filter_eq_nil_iff]
  intro x hx
  rw [v1f]
  ·decide
  ·rw [show(fun x:Str×Value=>x.1)=Prod.fst from rfl]
   rw [v8k h1]
   have:((List.map (fun x:Arg=>x.arg) ar).take vs.length).take ((List.map (fun x:Arg=>x.arg) ar).length- ds.length)=(List.map (fun x:Arg=>x.arg) ar).take ((List.map (fun x:Arg=>x.arg) ar).length- ds.length):=by rw [List.take_take,Nat.min_eq_left (Nat.sub_le_iff_le_add.mpr h2)]
   rw [←this]at hx
   exact List.mem_of_mem_take hx
 have loop:∀(l sl:List (Str×Value)),(forIn l sl fun(x:Str×Value) __s=>if(List.lookup x.fst __s).isNone=true then pure (ForInStep.yield (__s++[(x.fst,x.snd)]))else pure (ForInStep.yield __s):Sem (List (Str×Value)))=pure (u4y sl l):=fun l=>by
  induction l with
  |nil=>intro sl;rfl
  |cons x r ih=>
   intro sl
   rw [List.forIn_cons]
   rw [u6j]
   by_cases q:(List.lookup x.fst sl).isNone=true
   ·rw [if_pos q,if_pos q];exact ih _
   ·rw [if_neg q,if_neg q];exact ih _
 refine u8l (fun z=>absurd (of_decide_eq_true (Bool.and_eq_true_iff.mp z).1) (Nat.not_lt.mpr h1)) ?_
 refine u8l (c:=(!List.isEmpty (List.filter (fun n=>(List.lookup n ((List.map (fun x:Arg=>x.arg) ar).zip vs)).isNone) (List.take ((List.map (fun x:Arg=>x.arg) ar).length-(ds.drop (ds.length-(List.map (fun x:Arg=>x.arg) ar).length)).length) (List.map (fun x:Arg=>x.arg) ar))))=true) (by rw [n2,nm];exact Bool.false_ne_true) ?_
 refine wpAny_bind (w6w (loop ((List.drop ((List.map (fun x:Arg=>x.arg) ar).length-(ds.drop (ds.length-(List.map (fun x:Arg=>x.arg) ar).length)).length) (List.map (fun x:Arg=>x.arg) ar)).zip (ds.drop (ds.length-(List.map (fun x:Arg=>x.arg) ar).length))) ((List.map (fun x:Arg=>x.arg) ar).zip vs)) (wpAny_pure ?_))
 rw [n2,w2x nd h1 h2 h3]
 refine wpAny_bind (wpAny_pure ?_)
 refine u8l Bool.false_ne_true (wpAny_pure ?_)
 show Q (List.filterMap (fun n=>((List.map (fun x:Arg=>x.arg) ar).zip (vs++ds.drop (vs.length+ds.length-(List.map (fun x:Arg=>x.arg) ar).length))).lookup n|>.map (n,·)) ((List.map (fun x:Arg=>x.arg) ar)++[])) s
 rw [List.append_nil,w0t _ _ nd (by rw [List.length_append,List.length_drop];exact w5r h1 h2 h3)]
 exact q
end Mine
end
section
open PySem PySem.W PyProof.Rows
set_option maxRecDepth 20000
namespace Mine
structure Tk (Q E:MV→Hp→Prop):Type where
structure TkS (Q:Out→Loc→Hp→Prop) (E:MV→Loc→Hp→Prop):Type where
noncomputable def CS1 {T:Tab} (cx:Cx T) (r:Nat) (f:Value) (args:List MV) (σ:Hp) (Q E:MV→Hp→Prop) (_:Tk Q E):Prop:=u0p cx r f args σ Q E
noncomputable def CSf {T:Tab} (cx:Cx T):u1n:=u0p cx
noncomputable def seqQ (K:Loc→Hp→Prop) (Q:Out→Loc→Hp→Prop):Out→Loc→Hp→Prop
 |.next,l,σ=>K l σ
 |.cont,l,σ=>Q .cont l σ
 |.brk,l,σ=>Q .brk l σ
 |.ret v,l,σ=>Q (.ret v) l σ
noncomputable def retQ (Q:MV→Hp→Prop) (o:Out) (_:Loc) (σ:Hp):Prop:=match o with
 |.ret v=>Q v σ
 |.next=>Q .none σ
 |_=>False
noncomputable def swpL (T:Tab) (CS:u1n) (r:Nat) (s:MS) (loc:Loc) (σ:Hp) (Q:Out→Loc→Hp→Prop) (E:MV→Loc→Hp→Prop) (_:TkS Q E):Prop:=swp T CS r s loc σ Q E
noncomputable def ewpL (T:Tab) (CS:u1n) (r:Nat) (e:ME) (loc:Loc) (σ:Hp) (Q E:MV→Hp→Prop) (_:Tk Q E):Prop:=ewp T CS r e loc σ Q E
section
variable {T:Tab} {cx:Cx T} {CS:u1n} {r:Nat} {loc:Loc} {σ:Hp} {Q E:MV→Hp→Prop} {QB:Bool→Hp→Prop} {QS:Out→Loc→Hp→Prop} {ES:MV→Loc→Hp→Prop} {QL:List MV→Hp→Prop} {K:Loc→Hp→Prop}
theorem z0o {f:Value} {args:List MV}:CSf cx r f args σ Q E=CS1 cx r f args σ Q E ⟨⟩:=rfl
theorem x4y {l:Loc}:seqQ K QS .next l σ=K l σ:=rfl
theorem x4z {l:Loc}:seqQ K QS .cont l σ=QS .cont l σ:=rfl
theorem x9h {l:Loc}:seqQ K QS .brk l σ=QS .brk l σ:=rfl
theorem x9g {l:Loc} {v:MV}:seqQ K QS (.ret v) l σ=QS (.ret v) l σ:=rfl
theorem x9k {l:Loc} {v:MV}:retQ Q (.ret v) l σ=Q v σ:=rfl
theorem x5f {l:Loc}:retQ Q .next l σ=Q .none σ:=rfl
noncomputable def z1s (CS:u1n) (r:Nat) (fv:MV) (K:Value→Prop):Prop:=match fv with|.con v=>K v|_=>False
theorem z0n {elt e1 e2:ME} {ti:List Nat} {one:Bool} {k:SrcK} {conds:List ME}:ewp T CS r (.comp elt ti one k e1 e2 conds) loc σ Q E=ewpL T CS r (.comp elt ti one k e1 e2 conds) loc σ Q E ⟨⟩:=rfl
theorem z1r:ewp T CS r .dS loc σ Q E=newP (.dS []) σ Q:=rfl
theorem z1u {Q:Bool→Hp→Prop}:u4u T CS r [] loc σ Q=Q true σ:=rfl
theorem z1t {c:ME} {Q:Bool→Hp→Prop}:u4u T CS r [c] loc σ Q=twp T CS r c loc σ Q (fun _ _=>False):=propext ⟨fun q=>And.right q,fun q=>⟨rfl,q⟩⟩
theorem z1k:swps T CS r [] loc σ QS ES=QS .next loc σ:=rfl
theorem x5b {s:MS} {ss:List MS}:swps T CS r (s::ss) loc σ QS ES=swp T CS r s loc σ (seqQ (fun l σ1=>swps T CS r ss l σ1 QS ES) QS) ES:=
 congrArg (fun F=>swp T CS r s loc σ F ES) (funext fun o=>funext fun l=>funext fun σ1=>by cases o<;>rfl)
theorem x9x {s:MS}:swps T CS r [s] loc σ QS ES=swp T CS r s loc σ QS ES:=
 congrArg (fun F=>swp T CS r s loc σ F ES) (funext fun o=>funext fun l=>funext fun σ1=>by cases o<;>rfl)
theorem w3c {ms:List MS} {s:MS} {ss:List MS} (h:ms=s::ss) (q:swp T CS r s loc σ (seqQ (fun l σ1=>swps T CS r ss l σ1 QS ES) QS) ES):swps T CS r ms loc σ QS ES:=by
 subst h
 exact x5b.mpr q
theorem s_last {ms:List MS} {s:MS} (h:ms=[s]) (q:swp T CS r s loc σ QS ES):swps T CS r ms loc σ QS ES:=by
 subst h
 exact x9x.mpr q
theorem z0d {e:ME}:swp T CS r (.expr e) loc σ QS ES=ewp T CS r e loc σ (fun _ σ1=>QS .next loc σ1) (fun x σ1=>ES x loc σ1):=rfl
theorem z0e:swp T CS r .cont loc σ QS ES=QS .cont loc σ:=rfl
theorem z1j {e:ME}:swp T CS r (.ret e) loc σ QS ES=ewp T CS r e loc σ (fun v σ1=>QS (.ret v) loc σ1) (fun x σ1=>ES x loc σ1):=rfl
theorem x9j {i:Nat} {e:ME}:swp T CS r (.asg (.nm i) e) loc σ QS ES=ewp T CS r e loc σ (fun v σ1=>setP loc i v fun l=>QS .next l σ1) (fun x σ1=>ES x loc σ1):=rfl
theorem w0g {n:Nat} {o e:ME}:swp T CS r (.asg (.attr o n) e) loc σ QS ES=ewp T CS r e loc σ (fun v σ1=>ewp T CS r o loc σ1 (fun ov σ2=>u3h T ov n v σ2 fun σ3=>QS .next loc σ3) (fun x σ1=>ES x loc σ1)) (fun x σ1=>ES x loc σ1):=rfl
theorem x4d {o i e:ME}:swp T CS r (.asg (.item o i) e) loc σ QS ES=ewp T CS r e loc σ (fun v σ1=>ewp T CS r o loc σ1 (fun ov σ2=>ewp T CS r i loc σ2 (fun iv σ3=>u5b ov iv v σ3 fun σ4=>QS .next loc σ4) (fun x σ1=>ES x loc σ1)) (fun x σ1=>ES x loc σ1)) (fun x σ1=>ES x loc σ1):=rfl
noncomputable def tupP (v:MV) (K:List MV→Prop):Prop:=match v with
 |.tup xs=>K xs
 |_=>False
theorem x9f {xs:List MV} {K:List MV→Prop}:tupP (.tup xs) K=K xs:=rfl
theorem x5c {is:List Nat} {e:ME}:swp T CS r (.asg (.tup is) e) loc σ QS ES=ewp T CS r e loc σ (fun v σ1=>r≠0∧tupP v fun xs=>u7g loc is xs fun l=>QS .next l σ1) (fun x σ1=>ES x loc σ1):=rfl
noncomputable def w8b (a b:MV):Prop:=match a,b with|.int _,.int _=>True|_,_=>False
theorem x6u {i j:Int}:w8b (.int i) (.int j)=True:=rfl
theorem x9i {i:Nat} {op:Operator} {e:ME}:swp T CS r (.aug (.nm i) op e) loc σ QS ES=locP loc[i]? fun old=>ewp T CS r e loc σ (fun v σ1=>w8b old v∧binP op old v σ1 fun new σ2=>setP loc i new fun l=>QS .next l σ2) (fun x σ1=>ES x loc σ1):=rfl
theorem x4c {n:Nat} {op:Operator} {o e:ME}:swp T CS r (.aug (.attr o n) op e) loc σ QS ES=ewp T CS r o loc σ (fun ov σ1=>v3c T ov n σ1 fun old=>ewp T CS r e loc σ1 (fun v σ2=>w8b old v∧binP op old v σ2 fun new σ3=>u3h T ov n new σ3 fun σ4=>QS .next loc σ4) (fun x σ1=>ES x loc σ1)) (fun x σ1=>ES x loc σ1):=rfl
theorem x4b {op:Operator} {o i e:ME}:swp T CS r (.aug (.item o i) op e) loc σ QS ES=ewp T CS r o loc σ (fun ov σ1=>ewp T CS r i loc σ1 (fun iv σ2=>u4h ov iv σ2 fun old σ3=>ewp T CS r e loc σ3 (fun v σ4=>w8b old v∧binP op old v σ4 fun new σ5=>u5b ov iv new σ5 fun σ6=>QS .next loc σ6) (fun x σ1=>ES x loc σ1)) (fun x σ1=>ES x loc σ1)) (fun x σ1=>ES x loc σ1):=rfl
theorem z1l {c:ME} {a b:List MS}:swp T CS r (.ite c a b) loc σ QS ES=twp T CS r c loc σ (fun t σ1=>if t then swps T CS r a loc σ1 QS ES else swps T CS r b loc σ1 QS ES) (fun x σ1=>ES x loc σ1):=rfl
theorem z1h {c:ME} {b:List MS}:swp T CS r (.whl c b) loc σ QS ES=swpL T CS r (.whl c b) loc σ QS ES ⟨⟩:=rfl
theorem z1m {t:MT} {k:SrcK} {e1 e2:ME} {b:List MS}:swp T CS r (.for t k e1 e2 b) loc σ QS ES=swpL T CS r (.for t k e1 e2 b) loc σ QS ES ⟨⟩:=rfl
theorem z0c {a b:List MS}:swp T CS r (.tryF a b) loc σ QS ES=swpL T CS r (.tryF a b) loc σ QS ES ⟨⟩:=rfl
theorem z0b {a b:List MS} {ty:ME} {i:Nat}:swp T CS r (.tryX a ty i b) loc σ QS ES=swpL T CS r (.tryX a ty i b) loc σ QS ES ⟨⟩:=rfl
noncomputable def rseP (T:Tab) (v:MV) (σ:Hp) (K:Prop):Prop:=∃a C fs,v=.ref a∧σ a=some (.exc C fs)∧T.subs.lookup (C,C)=some true∧K
theorem z1i {e:ME}:swp T CS r (.rse e) loc σ QS ES=(r≠0∧ewp T CS r e loc σ (fun v σ1=>rseP T v σ1 (ES v loc σ1)) (fun x σ1=>ES x loc σ1)):=rfl
theorem u0c {a:Addr} {o:MObj}:(σ.put a o) a=some o:=by unfold Hp.put;rw [if_pos rfl]
theorem u0g {a b:Addr} {o:MObj} (h:b≠a):(σ.put a o) b=σ b:=by unfold Hp.put;rw [if_neg h]
theorem u2h {a:Addr} {o o':MObj}:(σ.put a o).put a o'=σ.put a o':=by funext b;unfold Hp.put;by_cases h:b=a<;>simp [h]
noncomputable def v3z (N:Loc→Hp→Prop) (QS:Out→Loc→Hp→Prop):Out→Loc→Hp→Prop
 |.next,l,s=>N l s
 |.cont,l,s=>N l s
 |.brk,l,s=>QS .next l s
 |.ret v,l,s=>QS (.ret v) l s
variable {N:Loc→Hp→Prop}
theorem x4f {l:Loc}:v3z N QS .next l σ=N l σ:=rfl
theorem x4g {l:Loc}:v3z N QS .cont l σ=N l σ:=rfl
theorem x6l {l:Loc} {v:MV}:v3z N QS (.ret v) l σ=QS (.ret v) l σ:=rfl
theorem v7n {c:ME} {b:List MS} {t:TkS QS ES} (I:Nat→Loc→Hp→Prop) (n:Nat) (h0:I n loc σ) (h:∀n loc σ,I n loc σ→twp T CS r c loc σ (fun t σ1=>if t then swps T CS r b loc σ1
    (v3z (fun loc2 σ2=>∃m,m<n∧I m loc2 σ2) QS) ES else QS .next loc σ1) (fun x σ1=>ES x loc σ1)):
  swpL T CS r (.whl c b) loc σ QS ES t:=by
 refine Exists.intro I ⟨⟨n,h0⟩,fun n loc σ hI=>?_⟩
 refine Eq.mp (congrArg (fun F=>twp T CS r c loc σ F (fun x σ1=>ES x loc σ1)) ?_) (h n loc σ hI)
 funext t σ1
 cases t with
 |false=>rfl
 |true=>
  show swps T CS r b loc σ1 _ ES=swps T CS r b loc σ1 _ ES
  refine congrArg (fun F=>swps T CS r b loc σ1 F ES) ?_
  funext o l s
  cases o<;>rfl
noncomputable def forK (T:Tab) (CS:u1n) (r:Nat) (t:MT) (b:List MS) (loc:Loc) (QS:Out→Loc→Hp→Prop) (ES:MV→Loc→Hp→Prop) (σ2:Hp) (xs:List MV) (st:Hp→Prop):Prop:=
 ∃I:List MV→Loc→Hp→Prop,I xs loc σ2∧(∀rest loc' σ',I rest loc' σ'→st σ')∧
    (∀x rest loc' σ',I (x::rest) loc' σ'→asgP T CS r t x loc' σ' (fun loc3 σ3=>swps T CS r b loc3 σ3 (v3z (I rest) QS) ES) (fun _ _=>False))∧
    ∀loc' σ',I [] loc' σ'→QS .next loc' σ'
theorem u0v {mt:MT} {k:SrcK} {e1 e2:ME} {b:List MS} {t:TkS QS ES} (hr:r≠0) (h:ewp T CS r e1 loc σ (fun v1 σ1=>ewp T CS r e2 loc σ1 (fun v2 σ2=>srcP k v1 v2 σ2 (forK T CS r mt b loc QS ES σ2)) (fun x σ1=>ES x loc σ1)) (fun x σ1=>ES x loc σ1)):
  swpL T CS r (.for mt k e1 e2 b) loc σ QS ES t:=by
 refine And.intro hr ?_
 refine Eq.mp (congrArg (fun F=>ewp T CS r e1 loc σ F (fun x σ1=>ES x loc σ1)) ?_) h
 funext v1 σ1
 refine congrArg (fun F=>ewp T CS r e2 loc σ1 F (fun x σ1=>ES x loc σ1)) ?_
 funext v2 σ2
 refine congrArg (srcP k v1 v2 σ2) ?_
 funext xs st
 unfold forK
 refine congrArg Exists ?_
 funext I
 refine congrArg (And _) (congrArg (And _) (congrArg (fun F=>F∧_) ?_))
 refine forall_congr fun x=>forall_congr fun rest=>forall_congr fun l=>forall_congr fun s=>forall_congr fun _=>?_
 refine congrArg (fun F=>asgP T CS r mt x l s F (fun _ _=>False)) ?_
 funext l3 s3
 refine congrArg (fun F=>swps T CS r b l3 s3 F ES) ?_
 funext o l s
 cases o<;>rfl
noncomputable def unr (T:Tab) (CS:u1n) (r:Nat) (t:MT) (b:List MS) (QS:Out→Loc→Hp→Prop) (ES:MV→Loc→Hp→Prop) (st:Hp→Prop):List MV→Loc→Hp→Prop
 |[],l,s=>st s∧QS .next l s
 |x::rest,l,s=>st s∧asgP T CS r t x l s (fun l3 s3=>swps T CS r b l3 s3 (v3z (unr T CS r t b QS ES st rest) QS) ES) (fun _ _=>False)
theorem u2u {t:MT} {b:List MS} {xs:List MV} {st:Hp→Prop} (h:unr T CS r t b QS ES st xs loc σ):forK T CS r t b loc QS ES σ xs st:=
 ⟨unr T CS r t b QS ES st,h,fun rest l s q=>by cases rest with|nil=>exact q.1|cons=>exact q.1,fun x rest l s q=>q.2,fun l s q=>q.2⟩
theorem u3a {t:MT} {b:List MS} {xs:List MV} {st:Hp→Prop} (I:Nat→Loc→Hp→Prop) (h0:I 0 loc σ) (hs:∀i l s,I i l s→st s)
  (hb:∀i x l s,xs[i]?=some x→I i l s→asgP T CS r t x l s (fun l3 s3=>swps T CS r b l3 s3 (v3z (I (i+1)) QS) ES) (fun _ _=>False)) (he:∀l s,I xs.length l s→QS .next l s):forK T CS r t b loc QS ES σ xs st:=by
 have key:∀i,i≤xs.length→(fun l s=>xs.drop i=xs.drop (xs.length-(xs.drop i).length)∧I (xs.length-(xs.drop i).length) l s)=I i:=fun i hi=>by
  have e:xs.length-(xs.drop i).length=i:=by rw [List.length_drop];lia
  rw [e]
  funext l s
  simp
 refine⟨fun rest l s=>rest=xs.drop (xs.length- rest.length)∧I (xs.length- rest.length) l s,⟨by simp,by simpa using h0⟩,fun rest l s ⟨_,q⟩=>hs _ l s q,fun x rest l s ⟨e,q⟩=>?_,fun l s ⟨_,q⟩=>he l s (by simpa using q)⟩
 generalize hi:xs.length-(x::rest).length=i at e q
 have lt:i<xs.length:=by
  refine Or.elim (Nat.lt_or_ge i xs.length) (fun z=>?_) (fun z=>?_)
  ·exact z
  ·rw [List.drop_of_length_le z]at e;cases e
 have hx:xs[i]?=some x:=by
  have:=congrArg (·[0]?) e
  simpa using this.symm
 have hrest:rest=xs.drop (i+1):=by
  have:=congrArg List.tail e
  simpa using this
 have k:=key (i+1) lt
 rw [←hrest]at k
 show asgP T CS r t x l s (fun l3 s3=>swps T CS r b l3 s3 (v3z (fun l s=>rest=xs.drop (xs.length- rest.length)∧I (xs.length- rest.length) l s) QS) ES) (fun _ _=>False)
 rw [k]
 exact hb i x l s hx q
noncomputable def w5x (T:Tab) (CS:u1n) (r:Nat) (elt:ME) (ti:List Nat) (one:Bool) (conds:List ME) (loc:Loc) (Q:MV→Hp→Prop) (σ2:Hp) (xs:List MV) (st:Hp→Prop):Prop:=
 ∃I:List MV→List MV→Hp→Prop,I xs [] σ2∧(∀rest acc σ',I rest acc σ'→st σ'∧acc.length≤u0t)∧
    (∀x rest acc σ',I (x::rest) acc σ'→u9q ti one x loc fun loc'=>u4u T CS r conds loc' σ' (fun t σ3=>if t then ewp T CS r elt loc' σ3 (fun y σ4=>I rest (acc++[y]) σ4) (fun _ _=>False)else I rest acc σ3))∧
    ∀acc σ',I [] acc σ'→newP (.list acc) σ' Q
theorem u1o {elt e1 e2:ME} {ti:List Nat} {one:Bool} {k:SrcK} {conds:List ME} {t:Tk Q E} (hr:r≠0) (h:ewp T CS r e1 loc σ (fun v1 σ1=>ewp T CS r e2 loc σ1 (fun v2 σ2=>srcP k v1 v2 σ2 (w5x T CS r elt ti one conds loc Q σ2)) E) E):
  ewpL T CS r (.comp elt ti one k e1 e2 conds) loc σ Q E t:=by
 exact And.intro hr h
noncomputable def unrC (T:Tab) (CS:u1n) (r:Nat) (elt:ME) (ti:List Nat) (one:Bool) (conds:List ME) (loc:Loc) (Q:MV→Hp→Prop) (st:Hp→Prop):List MV→List MV→Hp→Prop
 |[],acc,s=>(st s∧acc.length≤u0t)∧newP (.list acc) s Q
 |x::rest,acc,s=>(st s∧acc.length≤u0t)∧u9q ti one x loc fun loc'=>u4u T CS r conds loc' s (fun t s3=>if t then ewp T CS r elt loc' s3 (fun y s4=>unrC T CS r elt ti one conds loc Q st rest (acc++[y]) s4) (fun _ _=>False)else unrC T CS r elt ti one conds loc Q st rest acc s3)
theorem u6x {elt:ME} {ti:List Nat} {one:Bool} {conds:List ME} {xs:List MV} {st:Hp→Prop} (h:unrC T CS r elt ti one conds loc Q st xs [] σ):w5x T CS r elt ti one conds loc Q σ xs st:=
 ⟨unrC T CS r elt ti one conds loc Q st,h,fun rest acc s q=>by cases rest with|nil=>exact q.1|cons=>exact q.1,fun x rest acc s q=>q.2,fun acc s q=>q.2⟩
theorem u5g {elt:ME} {ti:List Nat} {one:Bool} {conds:List ME} {xs:List MV} {st:Hp→Prop} (I:Nat→List MV→Hp→Prop) (h0:I 0 [] σ) (hs:∀i acc s,I i acc s→st s∧acc.length≤u0t)
  (hb:∀i x acc s,xs[i]?=some x→I i acc s→u9q ti one x loc fun loc'=>u4u T CS r conds loc' s (fun t s3=>if t then ewp T CS r elt loc' s3 (fun y s4=>I (i+1) (acc++[y]) s4) (fun _ _=>False)else I (i+1) acc s3))
  (he:∀acc s,I xs.length acc s→newP (.list acc) s Q):w5x T CS r elt ti one conds loc Q σ xs st:=by
 have key:∀i,i≤xs.length→(fun l s=>xs.drop i=xs.drop (xs.length-(xs.drop i).length)∧I (xs.length-(xs.drop i).length) l s)=I i:=fun i hi=>by
  have e:xs.length-(xs.drop i).length=i:=by rw [List.length_drop];lia
  rw [e]
  funext l s
  simp
 refine⟨fun rest l s=>rest=xs.drop (xs.length- rest.length)∧I (xs.length- rest.length) l s,⟨by simp,by simpa using h0⟩,fun rest l s ⟨_,q⟩=>hs _ l s q,fun x rest l s ⟨e,q⟩=>?_,fun l s ⟨_,q⟩=>he l s (by simpa using q)⟩
 generalize hi:xs.length-(x::rest).length=i at e q
 have lt:i<xs.length:=by
  refine Or.elim (Nat.lt_or_ge i xs.length) (fun z=>?_) (fun z=>?_)
  ·exact z
  ·rw [List.drop_of_length_le z]at e;cases e
 have hx:xs[i]?=some x:=by
  have:=congrArg (·[0]?) e
  simpa using this.symm
 have hrest:rest=xs.drop (i+1):=by
  have:=congrArg List.tail e
  simpa using this
 have k:=key (i+1) lt
 rw [←hrest]at k
 have k1:∀l s,(rest=xs.drop (xs.length- rest.length)∧I (xs.length- rest.length) l s)=I (i+1) l s:=fun l s=>congrFun (congrFun k l) s
 show u9q ti one x loc fun loc'=>u4u T CS r conds loc' s (fun t s3=>if t then ewp T CS r elt loc' s3 (fun y s4=>(rest=xs.drop (xs.length- rest.length)∧I (xs.length- rest.length) (l++[y]) s4)) (fun _ _=>False)else(rest=xs.drop (xs.length- rest.length)∧I (xs.length- rest.length) l s3))
 simp only [k1]
 exact hb i x l s hx q
theorem w1w {a b:List MS} {t:TkS QS ES} (h:swps T CS r a loc σ (fun o loc1 σ1=>swps T CS r b loc1 σ1 (fun o' loc2 σ2=>match o' with|.next=>QS o loc2 σ2|_=>False) (fun _ _ _=>False))
   (fun x loc1 σ1=>swps T CS 0 b loc1 σ1 (fun o' loc2 σ2=>match o' with|.next=>(∃a C fs,x=.ref a∧σ2 a=some (.exc C fs))∧ES x loc2 σ2|_=>False) (fun _ _ _=>False))):swpL T CS r (.tryF a b) loc σ QS ES t:=by
 exact h
theorem w1v {a b:List MS} {ty:ME} {i:Nat} {t:TkS QS ES} (h:swps T CS r a loc σ QS
   (fun x loc1 σ1=>ewp T CS 0 ty loc1 σ1 (fun tv σ2=>∃a C fs,x=.ref a∧σ2 a=some (.exc C fs)∧w5j T tv C=true∧i<loc1.length∧
    swps T CS 0 b (loc1.set i (some x)) σ2 (fun o loc2 σ3=>QS o (loc2.set i none) σ3) (fun _ _ _=>False)) (fun _ _=>False))):swpL T CS r (.tryX a ty i b) loc σ QS ES t:=by
 exact h
end
end Mine
end
section
open PySem PySem.W PyProof.Rows PySem.Builtin.ObjectAttr
set_option maxRecDepth 20000
namespace Mine
structure FnT where
 f:Addr
 ps:List Str
 ds:List MV
 n:Nat
 sc:Sc
 ms:List MS
noncomputable def dfl1 (sy:List Str) (d:MV) (v:Value):Bool:=match d with
 |.int i=>match v with
  |.int j _=>i==j
  |_=>false
 |.sym n=>match v with
  |.str x _=>sy[n]?==some x
  |_=>false
 |_=>false
noncomputable def x3c (sy:List Str):List MV→List Value→Bool
 |[],vs=>vs.isEmpty
 |d::r,vs=>match vs with
  |[]=>false
  |v::r'=>dfl1 sy d v && x3c sy r r'
theorem x3e {sy:Sy} {h:Heap} {d:MV} {v:Value} (q:dfl1 sy.l d v=true):VRel sy h d v:=by
 cases d with
 |int i=>cases v with
  |int j t=>obtain rfl:=beq_iff_eq.mp (show(i==j)=true from q);exact .mk_int _ _
  |_=>exact(Bool.false_ne_true q).elim
 |sym n=>cases v with
  |str x t=>exact .mk_sym _ (beq_iff_eq.mp (show(sy.l[n]?==some x)=true from q))
  |_=>exact(Bool.false_ne_true q).elim
 |_=>exact(Bool.false_ne_true q).elim
theorem v8w {sy:Sy} {h:Heap}:∀{ds:List MV} {vs:List Value},x3c sy.l ds vs=true→u0j sy h ds vs
 |[],vs,q=>by obtain rfl:=List.isEmpty_iff.mp q;exact .nil
 |d::r,[],q=>(Bool.false_ne_true q).elim
 |d::r,v::r',q=>.cons (x3e (Bool.and_eq_true_iff.mp q).1) (v8w (Bool.and_eq_true_iff.mp q).2)
noncomputable def psB (p:Arguments) (ps:List Str):Bool:=p.posonlyargs.isEmpty && p.args.map (·.arg)==ps && p.vararg.isNone && p.kwonlyargs.isEmpty && p.kwarg.isNone
theorem x5h {fd:FuncData} {ps:List Str} (q:psB fd.params ps=true):PsOk fd ps:=by
 simp only [psB,Bool.and_eq_true,List.isEmpty_iff,beq_iff_eq,Option.isNone_iff_eq_none]at q
 refine al5 q fun a b c d e=>?_
 exact⟨a,b,c,d,e⟩
noncomputable def seqB (d:Data) (p:Array Value→Bool):Bool:=match d with
 |.seq vs _=>p vs
 |_=>false
noncomputable def dflV (K:Frag) (sy:List Str) (ds:List MV) (v:Value):Bool:=match v with
 |.none=>ds.isEmpty
 |.ref T=>(K.lookup T).any fun o=>seqB o.data fun vs=>x3c sy ds vs.toList
 |_=>false
noncomputable def dflB (K:Frag) (sy:List Str) (f:Addr) (ds:List MV):Bool:=dflV K sy ds (fdOf K f).defaults
set_option tactic.hygienic true in
theorem x3d {K:Frag} {sy:Sy} {f:Addr} {ds:List MV} (q:dflB K sy.l f ds=true) {h:Heap} (X:K.In h):
  ∃us,u0j sy h ds us∧(((fdOf K f).defaults=.none∧us=[])∨∃T o n,(fdOf K f).defaults=.ref T∧h.get? T=some o∧o.data=.seq us.toArray n):=by
 unfold dflB at q
 generalize (fdOf K f).defaults=v at q ⊢
 cases v with
 |none=>obtain rfl:=List.isEmpty_iff.mp q;exact⟨[],.nil,.inl ⟨rfl,rfl⟩⟩
 |ref T=>
  refine u0d (any_some q) fun zz2 ho q=>?_
  obtain⟨oc,od,d,osl⟩:=zz2
  cases d with
  |seq vs n=>exact⟨vs.toList,v8w q,.inr ⟨T,_,n,rfl,X _ _ ho,rfl⟩⟩
  |_=>exact(Bool.false_ne_true q).elim
 |_=>exact(Bool.false_ne_true q).elim
noncomputable def FnT.ok (K:Frag) (sy:List Str) (x:FnT):Bool:=w8l K sy x.f x.ps x.sc x.ms && psB (fdOf K x.f).params x.ps && dflB K sy x.f x.ds && decide (x.ds.length≤x.ps.length)
section
variable {T:Tab} {cx:Cx T} {r:Nat} {σ:Hp}
theorem FnT.codeAt (x:FnT) (c:x.ok cx.K T.sym=true) {args:List MV} (h1:args.length≤x.ps.length) (h2:x.ps.length≤args.length+x.ds.length) {Q E:MV→Hp→Prop}
  (q:swps T (CSf cx) r x.ms ((args++x.ds.drop (args.length+x.ds.length- x.ps.length)).map some++List.replicate x.n none) σ (retQ Q) (fun x _ σ1=>E x σ1)):u9w cx (r+1) (.ref x.f) args σ Q E:=by
 unfold FnT.ok at c
 simp only [Bool.and_eq_true,decide_eq_true_eq]at c
 refine al4 c fun c1 c2 c3 c4=>?_
 have nd:x.ps.Nodup:=by
  unfold w8l scOk at c1
  simp only [Bool.and_eq_true,decide_eq_true_eq]at c1
  exact c1.1.2.1.1.1.1.1
 refine y8c c1 (fun h t vs X rv=>?_) q
 refine u0d (x3d (sy:=cx.sy) c3 X) fun us ru hd=>?_
 have l1:=rv.length
 have l2:=ru.length
 refine⟨vs++us.drop (args.length+x.ds.length- x.ps.length),?_,rv.append (ru.drop _),?_⟩
 ·rw [List.length_append,List.length_drop,l1,l2];exact w5r h1 h2 c4
 ·have:=w9p (s:=cx.mk' h t) (fd:=fdOf cx.K x.f) (ps:=x.ps) (vs:=vs) (ds:=us) (x5h c2) nd hd (l1▸h1) (by rw [l1,l2];exact h2) (l2▸c4)
  rwa [l1,l2]at this
theorem FnT.code (x:FnT) (c:x.ok cx.K T.sym=true) {args:List MV} (h1:args.length≤x.ps.length) (h2:x.ps.length≤args.length+x.ds.length) {Q E:MV→Hp→Prop}
  (q:swps T (CSf cx) r x.ms ((args++x.ds.drop (args.length+x.ds.length- x.ps.length)).map some++List.replicate x.n none) σ (retQ Q) (fun x _ σ1=>E x σ1)):u0s cx (r+1) (.ref x.f) args σ Q E:=
 fun bn=>x.codeAt (cx:=cx.wb bn) c h1 h2 q
end
noncomputable def x0m (v:Value):Bool:=match v with
 |.ref _=>true
 |_=>false
noncomputable def w5i (l:List Value):Bool:=l.dropWhile x0m==[.type "Exception",.type "BaseException",.type "object"]
set_option tactic.hygienic true in
theorem w0y {self v:Value} {r:List Value} (z:x0m v=false) (q:w5i (v::r)=true):refuseLoop self "__setattr__" (v::r)=pure ():=by
 have q':=beq_iff_eq.mp q
 rw [List.dropWhile_cons_of_neg (by rw [z];exact Bool.false_ne_true)]at q'
 rw [q'];kernel_rfl
theorem w5h {self:Value} {l:List Value} (q:w5i l=true):refuseLoop self "__setattr__" l=pure ():=by
 induction l with
 |nil=>cases q
 |cons v r ih=>cases v with
  |ref a=>rw [refuseLoop_ref];exact ih q
  |_=>exact w0y rfl q
theorem u0q {a b:Bool} (h:(a && b)=true):a=true:=(Bool.and_eq_true_iff.mp h).1
theorem u3e {a b:Bool} (h:(a && b)=true):b=true:=(Bool.and_eq_true_iff.mp h).2
noncomputable def plB (T:Tab) (K:Frag) (C:Addr) (n:Nat):Bool:=(T.sym[n]?).any fun x=>
 plainGet K C x && hasDictIn K C && (findIn K (.ref C) x).any (noGet K) && findIn K (.ref C) "__setattr__" ==some (some (.builtin "object.__setattr__")) && takerIn K C x==some none && plainOver K C
noncomputable def meB (T:Tab) (K:Frag) (C:Addr) (n:Nat) (f:Addr):Bool:=(T.sym[n]?).any fun x=>
 plainGet K C x && findIn K (.ref C) x==some (some (.ref f)) && isFn K (.ref f) && keepIn K (.ref f)
noncomputable def valB (a:CFound) (f:Addr):Bool:=match a with
 |.val v=>v==.ref f
 |_=>false
noncomputable def caB (T:Tab) (K:Frag) (C:Addr) (n:Nat) (f:Addr):Bool:=(T.sym[n]?).any fun x=>
 specialIn K (.ref C) "__getattribute__" ==some (some (.builtin "type.__getattribute__")) && readsIn K C (.type "type") && (findCls K (.ref C) (.type "type") x).any (valB · f) && keepIn K (.ref f)
noncomputable def exB (T:Tab) (K:Frag) (C:Addr) (n:Nat):Bool:=(T.sym[n]?).any fun x=>(clsIn K C).any fun cd=>
 cd.hasDict && mroIn K C (.type "object")==some true && w5i cd.mro && findIn K (.ref C) "__setattr__" ==some (some (.builtin "object.__setattr__")) && takerIn K C x==some none &&
  findIn K (.ref C) "__getattribute__" ==some (some (.builtin "BaseException.__getattribute__")) && findIn K (.ref C) x==some none && subIn K (.ref C) (.type "BaseException")==some true && (findIn K (.ref C) "__getattr__").isSome
noncomputable def cxB (T:Tab) (K:Frag):Bool:=
 T.subs.all (fun x=>exmOne K (.ref x.1.1) (.ref x.1.2)==some x.2) && T.plain.all (fun x=>x.2.all fun n=>plB T K x.1 n) && T.meths.all (fun x=>meB T K x.1.1 x.1.2 x.2) &&
 T.clsAttrs.all (fun x=>caB T K x.1.1 x.1.2 x.2) && T.eplain.all (fun x=>x.2.all fun n=>exB T K x.1 n)
set_option tactic.hygienic true in
theorem u2b {α β:Type} [BEq α] [LawfulBEq α] {l:List (α×β)} {a:α} {b:β} (h:l.lookup a=some b):(a,b)∈ l:=by
 induction l with
 |nil=>cases h
 |cons x r ih=>
  obtain⟨k,v⟩:=x
  rw [List.lookup_cons]at h
  cases q:a==k with
  |true=>rw [q]at h;cases h;rw [beq_iff_eq.mp q];exact .head _
  |false=>rw [q]at h;exact .tail _ (ih h)
structure CxPre (T:Tab) where
 prog:Program
 w:World
 K:Frag
 base:Heap
 p:Program
 loose:List Str
 mg:Str→Option Value
 mb:Str→Option Value
 os:OsState
 g:Array GenState
 d:Drawn
 hK:K.In base
 hT:TopRead p loose mg mb base
noncomputable def v7r (sy:List Str):Bool:=decide sy.Nodup && sy.all (fun x=>decide (x.length≤1000) && PyData.strOk x) && sy[0]?==some (Str.ofString "append") && sy[1]?==some (Str.ofString "pop") && sy[2]?==some (Str.ofString "reverse") && sy[3]?==some (Str.ofString "get")
theorem u3r {sy:List Str} (hs:v7r sy=true):sy.Nodup∧(∀x ∈ sy,x.length≤1000∧PyData.strOk x=true)∧sy[0]?=some (Str.ofString "append")∧sy[1]?=some (Str.ofString "pop")∧sy[2]?=some (Str.ofString "reverse")∧sy[3]?=some (Str.ofString "get"):=by
 unfold v7r at hs
 simp only [Bool.and_eq_true,decide_eq_true_eq,beq_iff_eq,List.all_eq_true]at hs
 refine al6 hs fun s1 s2 s3 s4 s5 s6=>?_
 exact⟨s1,s2,s3,s4,s5,s6⟩
section
variable {T:Tab} {K:Frag}
theorem w9f (hc:cxB T K=true):∀C D b,T.subs.lookup (C,D)=some b→exmOne K (.ref C) (.ref D)=some b:=fun C D b h=>
 beq_iff_eq.mp (List.all_eq_true.mp (u0q (u0q (u0q (u0q hc)))) ((C,D),b) (u2b h))
set_option tactic.hygienic true in
theorem w5t (hc:cxB T K=true):∀C n,T.okAttr C n=true→∃x,T.sym[n]?=some x∧plainGet K C x=true∧hasDictIn K C=true∧(∃q,findIn K (.ref C) x=some q∧noGet K q=true)∧
  findIn K (.ref C) "__setattr__" =some (some (.builtin "object.__setattr__"))∧takerIn K C x=some none∧plainOver K C=true:=by
 intro C n h
 refine u0d (any_some h) fun l e h=>?_
 refine u0d (any_some (List.all_eq_true.mp (List.all_eq_true.mp (u3e (u0q (u0q (u0q hc)))) (C,l) (u2b e)) n (List.contains_iff_mem.mp h))) fun s es q=>?_
 exact⟨s,es,u0q (u0q (u0q (u0q (u0q q)))),u3e (u0q (u0q (u0q (u0q q)))),any_some (u3e (u0q (u0q (u0q q)))),beq_iff_eq.mp (u3e (u0q (u0q q))),beq_iff_eq.mp (u3e (u0q q)),u3e q⟩
set_option tactic.hygienic true in
theorem w5u (hc:cxB T K=true):∀C n f,T.meths.lookup (C,n)=some f→∃x,T.sym[n]?=some x∧plainGet K C x=true∧findIn K (.ref C) x=some (some (.ref f))∧isFn K (.ref f)=true∧keepIn K (.ref f)=true:=by
 intro C n f h
 refine u0d (any_some (List.all_eq_true.mp (u3e (u0q (u0q hc))) ((C,n),f) (u2b h))) fun s es q=>?_
 exact⟨s,es,u0q (u0q (u0q q)),beq_iff_eq.mp (u3e (u0q (u0q q))),u3e (u0q q),u3e q⟩
set_option tactic.hygienic true in
theorem x3g (hc:cxB T K=true):∀C n f,T.clsAttrs.lookup (C,n)=some f→∃x,T.sym[n]?=some x∧specialIn K (.ref C) "__getattribute__" =some (some (.builtin "type.__getattribute__"))∧readsIn K C (.type "type")=true∧
  findCls K (.ref C) (.type "type") x=some (.val (.ref f))∧keepIn K (.ref f)=true:=by
 intro C n f h
 refine u0d (any_some (List.all_eq_true.mp (u3e (u0q hc)) ((C,n),f) (u2b h))) fun s es q=>?_
 refine⟨s,es,beq_iff_eq.mp (u0q (u0q (u0q q))),u3e (u0q (u0q q)),?_,u3e q⟩
 refine u0d (any_some (u3e (u0q q))) fun g e a3=>?_
 cases g with
 |val v=>rw [e,beq_iff_eq.mp (show(v==.ref f)=true from a3)]
 |_=>exact(Bool.false_ne_true a3).elim
set_option tactic.hygienic true in
theorem w9g (hc:cxB T K=true):∀C n,T.okExc C n=true→∃x cd,T.sym[n]?=some x∧clsIn K C=some cd∧cd.hasDict=true∧mroIn K C (.type "object")=some true∧(∀self,refuseLoop self "__setattr__" cd.mro=pure ())∧
  findIn K (.ref C) "__setattr__" =some (some (.builtin "object.__setattr__"))∧takerIn K C x=some none∧findIn K (.ref C) "__getattribute__" =some (some (.builtin "BaseException.__getattribute__"))∧
  findIn K (.ref C) x=some none∧subIn K (.ref C) (.type "BaseException")=some true∧∃q,findIn K (.ref C) "__getattr__" =some q:=by
 intro C n h
 refine u0d (any_some h) fun l e h=>?_
 refine u0d (any_some (List.all_eq_true.mp (List.all_eq_true.mp (u3e hc) (C,l) (u2b e)) n (List.contains_iff_mem.mp h))) fun s es q=>?_
 refine u0d (any_some q) fun cd ec q=>?_
 have q6:=u0q (u0q (u0q q))
 exact⟨s,cd,es,ec,u0q (u0q (u0q (u0q (u0q q6)))),beq_iff_eq.mp (u3e (u0q (u0q (u0q (u0q q6))))),fun self=>w5h (u3e (u0q (u0q (u0q q6)))),beq_iff_eq.mp (u3e (u0q (u0q q6))),beq_iff_eq.mp (u3e (u0q q6)),beq_iff_eq.mp (u3e q6),
  beq_iff_eq.mp (u3e (u0q (u0q q))),beq_iff_eq.mp (u3e (u0q q)),Option.isSome_iff_exists.mp (u3e q)⟩
end
noncomputable def CxPre.mk' {T:Tab} (x:CxPre T) (hs:v7r T.sym=true) (hc:cxB T x.K=true):Cx T:=
 {prog:=x.prog,w:=x.w,K:=x.K,base:=x.base,p:=x.p,loose:=x.loose,mg:=x.mg,mb:=x.mb,os:=x.os,g:=x.g,d:=x.d,ban:=fun _=>False,hK:=x.hK,hT:=x.hT,
  nodup:=(u3r hs).1,short:=(u3r hs).2.1,s0:=(u3r hs).2.2.1,s1:=(u3r hs).2.2.2.1,s2:=(u3r hs).2.2.2.2.1,s3:=(u3r hs).2.2.2.2.2,
  subs:=w9f hc,plain:=w5t hc,meths:=w5u hc,clsAttrs:=x3g hc,excs:=w9g hc}
noncomputable def w8d (K:Frag) (C fI:Addr):Bool:=makesIn K C && findIn K (.ref C) "__init__" ==some (some (.ref fI)) && typeIn K (.ref fI)==some (.type "function")
end Mine
end
section
open PySem PySem.W PyProof.Rows
namespace Mine
def ids (s:String):Array (Lean.TSyntax `term):=(s.splitOn " ").toArray.map fun s=>⟨Lean.mkIdent s.toName⟩
theorem oa {n m:Nat}:n≤m+n:=Nat.le_add_left ..
theorem ob {n:Nat}:n≤n+1:=Nat.le_succ _
theorem oc {n:Nat}:0≤(n:Int):=Int.natCast_nonneg _
section
variable {x0 x1 x2 x3 x4 x5 x6:MV} {r:List MV} {σ:Hp} {Q:MV→Hp→Prop} {i j:Int} {B:Bool→Prop} {n m:Nat} {a b:Addr} {xs ys:List MV}
theorem it0:u4h (.tup (x0::r)) (.int 0) σ Q=Q x0 σ:=rfl
theorem it1:u4h (.tup (x0::x1::r)) (.int 1) σ Q=Q x1 σ:=rfl
theorem it2:u4h (.tup (x0::x1::x2::r)) (.int 2) σ Q=Q x2 σ:=rfl
theorem it3:u4h (.tup (x0::x1::x2::x3::r)) (.int 3) σ Q=Q x3 σ:=rfl
theorem it4:u4h (.tup (x0::x1::x2::x3::x4::r)) (.int 4) σ Q=Q x4 σ:=rfl
theorem it5:u4h (.tup (x0::x1::x2::x3::x4::x5::r)) (.int 5) σ Q=Q x5 σ:=rfl
theorem z0k {p q:Prop}:(if true=true then p else q)=p:=rfl
theorem z0l {p q:Prop}:(if false=true then p else q)=q:=rfl
theorem z0g {p q:Prop}:(if(true==true)=true then p else q)=p:=rfl
theorem z0h {p q:Prop}:(if(true==false)=true then p else q)=q:=rfl
theorem z0i {p q:Prop}:(if(false==true)=true then p else q)=q:=rfl
theorem z0j {p q:Prop}:(if(false==false)=true then p else q)=p:=rfl
theorem z1o:(!true)=false:=rfl
theorem z1p:(!false)=true:=rfl
theorem y9o:binP .Add (.int i) (.int j) σ Q=Q (.int (i+j)) σ:=rfl
theorem y9e:binP .Sub (.int i) (.int j) σ Q=Q (.int (i- j)) σ:=rfl
theorem y9k:binP .Mult (.int i) (.int j) σ Q=((i.natAbs<2^64∧j.natAbs<2^64)∧Q (.int (i*j)) σ):=rfl
theorem y9m:binP .FloorDiv (.int i) (.int j) σ Q=((j≠0∧j.natAbs<1073741824)∧Q (.int (i.fdiv j)) σ):=rfl
theorem y9l:binP .Mod (.int i) (.int j) σ Q=(j≠0∧Q (.int (i.fmod j)) σ):=rfl
theorem y9j:binP .Pow (.int i) (.int j) σ Q=((i.natAbs<2^64∧0≤j∧j≤1000000)∧Q (.int (i^j.toNat)) σ):=rfl
theorem y9h:binP .LShift (.int i) (.int j) σ Q=((i.natAbs<2^64∧0≤j∧j≤1000000)∧Q (.int (i*2^j.toNat)) σ):=rfl
theorem y9g:binP .RShift (.int i) (.int j) σ Q=(0≤j∧Q (.int (i.fdiv (2^j.toNat))) σ):=rfl
theorem y9n:binP .BitAnd (.int i) (.int j) σ Q=Q (.int (Builtin.bitAnd i j)) σ:=rfl
theorem z1c:binP .BitOr (.int i) (.int j) σ Q=Q (.int (Builtin.bitOr i j)) σ:=rfl
theorem y9c:binP .BitXor (.int i) (.int j) σ Q=Q (.int (Builtin.bitXor i j)) σ:=rfl
theorem y9d:binP .Add (.tup xs) (.tup ys) σ Q=((xs≠[]∧ys≠[]∧xs.length+ys.length≤u0t)∧Q (.tup (xs++ys)) σ):=rfl
theorem x9n:binP .Add (.ref a) (.ref b) σ Q=∃xs ys,σ a=some (.list xs)∧σ b=some (.list ys)∧xs.length+ys.length≤u0t∧newP (.list (xs++ys)) σ Q:=rfl
theorem y9i:binP .Mult (.ref a) (.int i) σ Q=∃xs,σ a=some (.list xs)∧0≤i∧i<2^62∧xs.length*i.toNat≤256∧newP (.list (List.replicate i.toNat xs).flatten) σ Q:=rfl
theorem y9f {s:Str}:binP .Add (.sym n) (.txt s) σ Q=(s.length≤1000∧∀s',Q (.txt s') σ):=rfl
theorem z1b:cmpP .Eq (.int i) (.int j) σ B=B (decide (i=j)):=rfl
theorem z0u:cmpP .NotEq (.int i) (.int j) σ B=B (!decide (i=j)):=rfl
theorem z0v:cmpP .Lt (.int i) (.int j) σ B=B (decide (i<j)):=rfl
theorem z0x:cmpP .LtE (.int i) (.int j) σ B=B (decide (i≤j)):=rfl
theorem z0z:cmpP .Gt (.int i) (.int j) σ B=B (decide (j<i)):=rfl
theorem z1a:cmpP .GtE (.int i) (.int j) σ B=B (decide (j≤i)):=rfl
theorem z0q:cmpP .Eq (.sym n) (.sym m) σ B=B (n==m):=rfl
theorem z0r:cmpP .NotEq (.sym n) (.sym m) σ B=B (!(n==m)):=rfl
theorem is_n:cmpP .Is .none .none σ B=B true:=rfl
theorem is_i:cmpP .Is (.int i) .none σ B=B false:=rfl
theorem is_b {b:Bool}:cmpP .Is (.bool b) .none σ B=B false:=rfl
theorem is_s:cmpP .Is (.sym n) .none σ B=B false:=rfl
theorem is_t:cmpP .Is (.tup xs) .none σ B=B false:=rfl
theorem is_r:cmpP .Is (.ref a) .none σ B=B false:=rfl
theorem no_n:cmpP .IsNot .none .none σ B=B false:=rfl
theorem no_i:cmpP .IsNot (.int i) .none σ B=B true:=rfl
theorem no_b {b:Bool}:cmpP .IsNot (.bool b) .none σ B=B true:=rfl
theorem no_s:cmpP .IsNot (.sym n) .none σ B=B true:=rfl
theorem no_t:cmpP .IsNot (.tup xs) .none σ B=B true:=rfl
theorem no_r:cmpP .IsNot (.ref a) .none σ B=B true:=rfl
theorem z0p:cmpP .Eq (.tup xs) (.tup ys) σ B=(((MV.tup xs).isData 8=true∧(MV.tup ys).isData 8=true)∧B ((MV.tup xs).beq (.tup ys))):=rfl
theorem z0s:cmpP .NotEq (.tup xs) (.tup ys) σ B=(((MV.tup xs).isData 8=true∧(MV.tup ys).isData 8=true)∧B (!(MV.tup xs).beq (.tup ys))):=rfl
theorem z0y:cmpP .In x0 (.tup xs) σ B=((x0.isData 8=true∧u1d xs=true)∧B (xs.any fun x=>x.beq x0)):=by cases x0<;>rfl
theorem z0w:cmpP .Eq (.ref a) (.ref b) σ B=∃xs ys,σ a=some (.list xs)∧σ b=some (.list ys)∧(u1d xs=true∧u1d ys=true)∧B (beqs xs ys):=rfl
theorem z0t:cmpP .NotEq (.ref a) (.ref b) σ B=∃xs ys,σ a=some (.list xs)∧σ b=some (.list ys)∧(u1d xs=true∧u1d ys=true)∧B (!beqs xs ys):=rfl
theorem tr_b {b:Bool}:u1u (.bool b) B=B b:=rfl
theorem tr_i:u1u (.int i) B=B (decide (i≠0)):=rfl
theorem tr_n:u1u .none B=B false:=rfl
end
theorem w5a:∃f:List MS→List MS,∀m,f m=m:=⟨id,fun _=>rfl⟩
noncomputable def hide:List MS→List MS:=Classical.choose w5a
theorem u0w (m:List MS):hide m=m:=Classical.choose_spec w5a m
section
variable {T:Tab} {CS:u1n} {r:Nat} {loc:Loc} {σ:Hp} {QS:Out→Loc→Hp→Prop} {ES:MV→Loc→Hp→Prop}
theorem s_stepH {ms:List MS} {s:MS} {ss:List MS} (h:ms=s::ss) (q:swp T CS r s loc σ (seqQ (fun l σ1=>swps T CS r (hide ss) l σ1 QS ES) QS) ES):swps T CS r ms loc σ QS ES:=w3c h (by rw [u0w ss]at q;exact q)
theorem s_stepR {ms0:List MS} {s:MS} {ss:List MS} (h:ms0=s::ss) (q:swp T CS r s loc σ (seqQ (fun l σ1=>swps T CS r (hide ss) l σ1 QS ES) QS) ES):swps T CS r (hide ms0) loc σ QS ES:=s_stepH ((u0w ms0).trans h) q
theorem s_lastR {ms0:List MS} {s:MS} (h:ms0=[s]) (q:swp T CS r s loc σ QS ES):swps T CS r (hide ms0) loc σ QS ES:=s_last ((u0w ms0).trans h) q
end
section
variable {T:Tab} {σ:Hp} {a C:Addr} {n:Nat} {fs:List (Nat×MV)} {v:MV} {Q:MV→Prop} {K:Hp→Prop} {W:Value→List MV→Prop}
theorem u1l (h:σ a=some (.inst C fs)) (ok:T.okAttr C n=true) (l:fs.lookup n=some v) (q:Q v):v3c T (.ref a) n σ Q:=⟨a,C,fs,v,rfl,l,q,.inl ⟨h,ok⟩⟩
theorem x9a (h:σ a=some (.exc C fs)) (ok:T.okExc C n=true) (l:fs.lookup n=some v) (q:Q v):v3c T (.ref a) n σ Q:=⟨a,C,fs,v,rfl,l,q,.inr ⟨h,ok⟩⟩
theorem u2q (h:σ a=some (.inst C fs)) (ok:T.okAttr C n=true) (l:fs.length≤900) (q:K (σ.put a (.inst C (putN n v fs)))):u3h T (.ref a) n v σ K:=⟨a,C,fs,rfl,l,.inl ⟨h,ok,q⟩⟩
theorem v1a {o:MObj} (q:K (σ.put a (.inst C (putN n v fs)))) (ok:T.okAttr C n=true) (l:fs.length≤900) (h:o=.inst C fs):u3h T (.ref a) n v (σ.put a o) K:=by subst h;exact u2q u0c ok l (by rw [u2h];exact q)
theorem w2z (h:σ a=some (.exc C fs)) (ok:T.okExc C n=true) (l:fs.length≤900) (q:K (σ.put a (.exc C (putN n v fs)))):u3h T (.ref a) n v σ K:=⟨a,C,fs,rfl,l,.inr ⟨h,ok,q⟩⟩
theorem u4n {f:Addr} (h:σ a=some (.inst C fs)) (e:T.meths.lookup (C,n)=some f) (l:fs.lookup n=none) (q:W (.ref f) [.ref a]):v0b T (.ref a) n σ W:=.inr ⟨a,rfl,.inl ⟨C,fs,f,h,l,e,q⟩⟩
theorem u6q {xs:List MV} (h:σ a=some (.list xs)) (q:W (.builtin "list.append") [.ref a]):v0b T (.ref a) 0 σ W:=.inr ⟨a,rfl,.inr (.inl ⟨xs,h,.inl ⟨rfl,q⟩⟩)⟩
theorem w7s {xs:List MV} (h:σ a=some (.list xs)) (q:W (.builtin "list.pop") [.ref a]):v0b T (.ref a) 1 σ W:=.inr ⟨a,rfl,.inr (.inl ⟨xs,h,.inr (.inl ⟨rfl,q⟩)⟩)⟩
theorem w7r {xs:List MV} (h:σ a=some (.list xs)) (q:W (.builtin "list.reverse") [.ref a]):v0b T (.ref a) 2 σ W:=.inr ⟨a,rfl,.inr (.inl ⟨xs,h,.inr (.inr ⟨rfl,q⟩)⟩)⟩
theorem x5x {f:Addr} (e:T.clsAttrs.lookup (C,n)=some f) (q:W (.ref f) []):v0b T (.con (.ref C)) n σ W:=.inl ⟨C,f,rfl,e,q⟩
theorem x4t {xs:List MV} {k:Int} {Q:MV→Hp→Prop} (h:σ a=some (.list xs)) (l:xs.length≤u0t) (k0:0≤k) (q:newP (.list (xs.take k.toNat)) σ Q):u8p (.ref a) .none (.int k) σ Q:=
 .inr ⟨a,xs,rfl,l,.inl h,.inl ⟨k,rfl,rfl,k0,q⟩⟩
theorem x4v {ns:List Int} {k:Int} {Q:MV→Hp→Prop} (h:σ a=some (.frz ns)) (l:ns.length≤u0t) (k0:0≤k) (q:newP (.list ((ns.map MV.int).take k.toNat)) σ Q):u8p (.ref a) .none (.int k) σ Q:=
 .inr ⟨a,_,rfl,by rw [List.length_map];exact l,.inr ⟨ns,h,rfl⟩,.inl ⟨k,rfl,rfl,k0,q⟩⟩
theorem u0l {xs:List MV} {k:Int} {Q:MV→Hp→Prop} (j:Nat) (h:σ a=some (.list xs)) (hk:k=j) (hj:j≤1000000) (e:xs[j]?=some v) (q:Q v σ):u4h (.ref a) (.int k) σ Q:=by
 subst hk
 have hl:j<xs.length:=(List.getElem?_eq_some_iff.mp e).1
 refine .inl ⟨_,xs,j,v,rfl,⟨by lia,by lia⟩,h,?_,e,q⟩
 unfold u9z;rw [if_pos (by lia),if_pos (by lia)];simp
theorem v0z {xs:List MV} {k:Int} {K:Hp→Prop} (j:Nat) (h:σ a=some (.list xs)) (hk:k=j) (hj:j≤1000000) (hl:j<xs.length) (q:K (σ.put a (.list (xs.set j v)))):u5b (.ref a) (.int k) v σ K:=by
 subst hk
 exact⟨a,rfl,.inl ⟨_,xs,rfl,h,by lia,by lia,by lia,q⟩⟩
theorem u6a {o o':MObj} {b:Addr} (h:σ a=some o) (h':σ b=some o') (n:o≠o'):a≠b:=fun e=>n (by rw [e,h']at h;exact(Option.some.inj h).symm)
theorem u0h {o:MObj} {b:Addr} (h:σ b=some o) (n:σ a=none):b≠a:=fun e=>by rw [e,n]at h;cases h
end
end Mine
end
section
open PySem PySem.W PyProof.Rows
set_option maxRecDepth 100000
namespace Mine
namespace A
noncomputable def y8m:Addr:=21
noncomputable def f_GateloomError___init__:Addr:=36
noncomputable def w6g:Addr:=39
noncomputable def c_DesignError:Addr:=52
noncomputable def c_LimitReached:Addr:=64
noncomputable def f_mask:Addr:=73
noncomputable def f_vec:Addr:=81
noncomputable def y8l:Addr:=88
noncomputable def f_all_x:Addr:=95
noncomputable def f_all_z:Addr:=102
noncomputable def f_from_int:Addr:=109
noncomputable def f_is_known:Addr:=116
noncomputable def f_to_int:Addr:=123
noncomputable def f_code:Addr:=130
noncomputable def f_slice_vec:Addr:=137
noncomputable def f_put_slice:Addr:=144
noncomputable def f_concat:Addr:=151
noncomputable def f_extend:Addr:=158
noncomputable def f_z_to_x:Addr:=165
noncomputable def f_truth:Addr:=172
noncomputable def f_add:Addr:=179
noncomputable def f_sub:Addr:=186
noncomputable def f_mul:Addr:=193
noncomputable def z1q:Addr:=200
noncomputable def x4h:Addr:=207
noncomputable def f_div:Addr:=214
noncomputable def f_mod:Addr:=221
noncomputable def w8x:Addr:=228
noncomputable def f_power:Addr:=235
noncomputable def f_shift_left:Addr:=242
noncomputable def f_shift_right:Addr:=249
noncomputable def f_shift_arith:Addr:=256
noncomputable def f_ordered:Addr:=263
noncomputable def f_less:Addr:=270
noncomputable def f_less_equal:Addr:=277
noncomputable def f_greater:Addr:=284
noncomputable def f_greater_equal:Addr:=291
noncomputable def f_one_bit:Addr:=298
noncomputable def f_bit_not:Addr:=305
noncomputable def f_bit_and:Addr:=312
noncomputable def f_bit_or:Addr:=319
noncomputable def f_bit_xor:Addr:=326
noncomputable def f_bit_xnor:Addr:=333
noncomputable def x0x:Addr:=340
noncomputable def w8w:Addr:=347
noncomputable def x2r:Addr:=354
noncomputable def x0w:Addr:=361
noncomputable def x0v:Addr:=368
noncomputable def w8v:Addr:=375
noncomputable def x2s:Addr:=382
noncomputable def f_logic_and:Addr:=389
noncomputable def f_logic_or:Addr:=396
noncomputable def f_equal:Addr:=403
noncomputable def f_not_equal:Addr:=410
noncomputable def f_case_equal:Addr:=417
noncomputable def f_case_not_equal:Addr:=424
noncomputable def f_matchesV:Addr:=431
noncomputable def f_choose:Addr:=438
noncomputable def f_unary:Addr:=445
noncomputable def f_arithmetic:Addr:=452
noncomputable def f_comparison:Addr:=459
noncomputable def f_bitwise:Addr:=466
noncomputable def f_binary:Addr:=473
noncomputable def f_whole_of:Addr:=480
noncomputable def f_memory_word:Addr:=487
noncomputable def f_picked:Addr:=494
noncomputable def f_conditional:Addr:=501
noncomputable def w8y:Addr:=508
noncomputable def f_system_value:Addr:=515
noncomputable def f_evaluate:Addr:=520
noncomputable def f_locate:Addr:=527
noncomputable def f_holder_width:Addr:=534
noncomputable def f_resolve_target:Addr:=541
noncomputable def f_store_rows:Addr:=548
noncomputable def f_Store___init__:Addr:=562
noncomputable def f_Store_get:Addr:=569
noncomputable def x0y:Addr:=576
noncomputable def f_Store_set_bits:Addr:=583
noncomputable def c_Store:Addr:=586
noncomputable def f_Context___init__:Addr:=605
noncomputable def w6v:Addr:=612
noncomputable def v4q:Addr:=619
noncomputable def v8u:Addr:=626
noncomputable def c_Context:Addr:=629
noncomputable def f_FunctionContext___init__:Addr:=648
noncomputable def f_FunctionContext_call:Addr:=655
noncomputable def f_FunctionContext_new_frame:Addr:=660
noncomputable def f_FunctionContext_burn:Addr:=667
noncomputable def f_FunctionContext_is_true:Addr:=674
noncomputable def c_FunctionContext:Addr:=677
noncomputable def f_run_block:Addr:=686
noncomputable def f_run_set:Addr:=693
noncomputable def f_run_case:Addr:=700
noncomputable def f_run_while:Addr:=707
noncomputable def f_run_repeat:Addr:=714
noncomputable def f_run_for:Addr:=721
noncomputable def f_run_statement:Addr:=728
noncomputable def f_Routine___init__:Addr:=742
noncomputable def w1l:Addr:=747
noncomputable def c_Routine:Addr:=750
noncomputable def f_Design___init__:Addr:=768
noncomputable def v6w:Addr:=775
noncomputable def v8t:Addr:=782
noncomputable def f_Design_add_routine:Addr:=789
noncomputable def v5h:Addr:=796
noncomputable def w8z:Addr:=803
noncomputable def f_Design_routine:Addr:=810
noncomputable def c_Design:Addr:=813
noncomputable def f__law_row:Addr:=824
noncomputable def f__law_next:Addr:=831
noncomputable def f__law_bits:Addr:=838
noncomputable def f__law_made:Addr:=845
noncomputable def f__law_expr:Addr:=852
noncomputable def f__law_test:Addr:=859
noncomputable def f__law_set:Addr:=866
noncomputable def f__law_statement:Addr:=873
noncomputable def f__law_codes:Addr:=878
noncomputable def f__law_figure:Addr:=885
noncomputable def f__law_same:Addr:=892
noncomputable def f__law_value:Addr:=897
noncomputable def f__law_burnt:Addr:=904
noncomputable def f__law_meets:Addr:=911
noncomputable def f__law_loop:Addr:=918
noncomputable def f__law_run:Addr:=923
noncomputable def f__law_called:Addr:=930
noncomputable def f__law_entered:Addr:=937
noncomputable def f_law:Addr:=942
end A
noncomputable def Tb:Tab where
 sym:=[("append":Str),("pop":Str),("reverse":Str),("get":Str),("kind":Str),("at":Str),("detail":Str),("+":Str),("-":Str),("*":Str),("/":Str),("%":Str),("<<":Str),("<<<":Str),(">>":Str),(">>>":Str),("<":Str),("<=":Str),(">":Str),(">=":Str),("==":Str),("!=":Str),("===":Str),("!==":Str),("&":Str),("|":Str),("^":Str),("~^":Str),("&&":Str),("||":Str),("unknown_operator":Str),("const":Str),("sig":Str),("store":Str),("local":Str),("frame":Str),("bin":Str),("un":Str),("ext":Str),("slice":Str),("pick":Str),("word":Str),("cond":Str),("cat":Str),("pow":Str),("call":Str),("sys":Str),("unknown_expression":Str),("signals":Str),("width":Str),("place":Str),("set_bits":Str),("values":Str),("memories":Str),("random_seed":Str),("is_net":Str),("words":Str),("now":Str),("__init__":Str),("design":Str),("fuel":Str),("depth":Str),("written":Str),("function_depth":Str),("routine":Str),("new_frame":Str),("body":Str),("slots":Str),("ports":Str),("input":Str),("function_steps":Str),("timing_in_function":Str),("is_true":Str),("burn":Str),("set":Str),("block":Str),("if":Str),("case":Str),("for":Str),("while":Str),("repeat":Str),("forever":Str),("disable":Str),("not_in_function":Str),("wire":Str),("tri":Str),("wand":Str),("wor":Str),("tri0":Str),("tri1":Str),("trireg":Str),("supply0":Str),("supply1":Str),("key":Str),("path":Str),("signed":Str),("msb":Str),("lsb":Str),("first":Str),("last":Str),("init":Str),("scalar":Str),("number":Str),("is_function":Str),("automatic":Str),("source":Str),("scope":Str),("disable_scope":Str),("made":Str),("assigns":Str),("gates":Str),("udps":Str),("processes":Str),("routines":Str),("scopes":Str),("tops":Str),("maker":Str),("by_path":Str),("make_body":Str),("lv":Str),("add_routine":Str),("top.f":Str),("":Str),("top.s":Str),("top.t":Str),("add_signal":Str),("reg":Str),("delay":Str),("await":Str),("any":Str),("wait":Str),("nba":Str),("trigger":Str),("fork":Str),("$display":Str),("casez":Str),("casex":Str)]
 plain:=[(586,[48,52,53,54]),(629,[33,35,57]),(677,[33,35,57,59,60,61,62]),(750,[102,94,103,104,5,49,95,68,67,66,105,106,107,108]),(813,[48,109,110,111,112,113,114,115,68,116,117])]
 eplain:=[(52,[4,5,6]),(64,[4,5,6])]
 meths:=[((586,3),569),((586,51),583),((677,45),655),((677,65),660),((677,73),667),((677,72),674),((813,120),789),((813,64),810)]
 clsAttrs:=[((629,58),605)]
 subs:=[((39,39),true),((39,52),false),((39,64),false),((52,39),true),((52,52),true),((52,64),false),((64,39),true),((64,52),false),((64,64),true)]
namespace M
noncomputable def GateloomError___init__:List MS:=[.asg (.attr (.loc 0) 4) (.loc 1),.asg (.attr (.loc 0) 5) (.loc 2),.asg (.attr (.loc 0) 6) (.loc 3)]
noncomputable def mask:List MS:=[.ret (.bin .Sub (.bin .LShift (.int 1) (.loc 0)) (.int 1))]
noncomputable def vec:List MS:=[.asg (.nm 3) (.call (.con (.ref A.f_mask)) [.loc 0]),.ret (.tup [.loc 0,.bin .BitAnd (.loc 1) (.loc 3),.bin .BitAnd (.loc 2) (.loc 3)])]
noncomputable def all_x:List MS:=[.asg (.nm 1) (.call (.con (.ref A.f_mask)) [.loc 0]),.ret (.tup [.loc 0,.loc 1,.loc 1])]
noncomputable def from_int:List MS:=[.ret (.tup [.loc 0,.bin .BitAnd (.loc 1) (.call (.con (.ref A.f_mask)) [.loc 0]),.int 0])]
noncomputable def is_known:List MS:=[.ret (.cmp .Eq (.item (.loc 0) (.int 2)) (.int 0))]
noncomputable def to_int:List MS:=[.asg (.tup [2,3,4]) (.loc 0),.ite (.cmp .NotEq (.loc 4) (.int 0)) [.ret .none] [],.ite (.and [.loc 1,.cmp .Eq (.bin .RShift (.loc 3) (.bin .Sub (.loc 2) (.int 1))) (.int 1)]) [.ret (.bin .Sub (.loc 3) (.bin .LShift (.int 1) (.loc 2)))] [],.ret (.loc 3)]
noncomputable def code:List MS:=[.ret (.bin .Add (.bin .BitAnd (.bin .RShift (.item (.loc 0) (.int 1)) (.loc 1)) (.int 1)) (.bin .Mult (.int 2) (.bin .BitAnd (.bin .RShift (.item (.loc 0) (.int 2)) (.loc 1)) (.int 1))))]
noncomputable def slice_vec:List MS:=[.asg (.nm 3) (.call (.con (.builtin "max")) [.loc 1,.int 0]),.asg (.nm 4) (.call (.con (.builtin "min")) [.bin .Add (.loc 1) (.loc 2),.item (.loc 0) (.int 0)]),.ite (.cmp .LtE (.loc 4) (.loc 3)) [.ret (.call (.con (.ref A.f_all_x)) [.loc 2])] [],.asg (.nm 5) (.call (.con (.ref A.f_mask)) [.bin .Sub (.loc 4) (.loc 3)]),.asg (.nm 6) (.bin .Sub (.loc 3) (.loc 1)),.asg (.nm 7) (.bin .BitXor (.call (.con (.ref A.f_mask)) [.loc 2]) (.bin .LShift (.loc 5) (.loc 6))),.asg (.nm 8) (.bin .LShift (.bin .BitAnd (.bin .RShift (.item (.loc 0) (.int 1)) (.loc 3)) (.loc 5)) (.loc 6)),.asg (.nm 9) (.bin .LShift (.bin .BitAnd (.bin .RShift (.item (.loc 0) (.int 2)) (.loc 3)) (.loc 5)) (.loc 6)),.ret (.tup [.loc 2,.bin .BitOr (.loc 8) (.loc 7),.bin .BitOr (.loc 9) (.loc 7)])]
noncomputable def put_slice:List MS:=[.asg (.nm 3) (.call (.con (.builtin "max")) [.loc 1,.int 0]),.asg (.nm 4) (.call (.con (.builtin "min")) [.bin .Add (.loc 1) (.item (.loc 2) (.int 0)),.item (.loc 0) (.int 0)]),.ite (.cmp .LtE (.loc 4) (.loc 3)) [.ret (.loc 0)] [],.asg (.nm 5) (.call (.con (.ref A.f_mask)) [.bin .Sub (.loc 4) (.loc 3)]),.asg (.nm 6) (.bin .Sub (.loc 3) (.loc 1)),.asg (.nm 7) (.bin .BitXor (.call (.con (.ref A.f_mask)) [.item (.loc 0) (.int 0)]) (.bin .LShift (.loc 5) (.loc 3))),.asg (.nm 8) (.bin .BitOr (.bin .BitAnd (.item (.loc 0) (.int 1)) (.loc 7)) (.bin .LShift (.bin .BitAnd (.bin .RShift (.item (.loc 2) (.int 1)) (.loc 6)) (.loc 5)) (.loc 3))),.asg (.nm 9) (.bin .BitOr (.bin .BitAnd (.item (.loc 0) (.int 2)) (.loc 7)) (.bin .LShift (.bin .BitAnd (.bin .RShift (.item (.loc 2) (.int 2)) (.loc 6)) (.loc 5)) (.loc 3))),.ret (.tup [.item (.loc 0) (.int 0),.loc 8,.loc 9])]
noncomputable def extend:List MS:=[.ite (.cmp .LtE (.loc 1) (.item (.loc 0) (.int 0))) [.ret (.call (.con (.ref A.f_vec)) [.loc 1,.item (.loc 0) (.int 1),.item (.loc 0) (.int 2)])] [],.ite (.not (.loc 2)) [.ret (.tup [.loc 1,.item (.loc 0) (.int 1),.item (.loc 0) (.int 2)])] [],.asg (.nm 3) (.bin .BitXor (.call (.con (.ref A.f_mask)) [.loc 1]) (.call (.con (.ref A.f_mask)) [.item (.loc 0) (.int 0)])),.asg (.nm 4) (.call (.con (.ref A.f_code)) [.loc 0,.bin .Sub (.item (.loc 0) (.int 0)) (.int 1)]),.asg (.nm 5) (.bin .BitOr (.item (.loc 0) (.int 1)) (.ite (.bin .BitAnd (.loc 4) (.int 1)) (.loc 3) (.int 0))),.asg (.nm 6) (.bin .BitOr (.item (.loc 0) (.int 2)) (.ite (.bin .BitAnd (.loc 4) (.int 2)) (.loc 3) (.int 0))),.ret (.tup [.loc 1,.loc 5,.loc 6])]
noncomputable def z_to_x:List MS:=[.ret (.tup [.item (.loc 0) (.int 0),.bin .BitOr (.item (.loc 0) (.int 1)) (.item (.loc 0) (.int 2)),.item (.loc 0) (.int 2)])]
noncomputable def truth:List MS:=[.ite (.cmp .NotEq (.bin .BitAnd (.item (.loc 0) (.int 1)) (.bin .BitXor (.item (.loc 0) (.int 2)) (.call (.con (.ref A.f_mask)) [.item (.loc 0) (.int 0)]))) (.int 0)) [.ret (.int 1)] [],.ite (.and [.cmp .Eq (.item (.loc 0) (.int 1)) (.int 0),.cmp .Eq (.item (.loc 0) (.int 2)) (.int 0)]) [.ret (.int 0)] [],.ret (.int 3)]
noncomputable def z2u:List MS:=[.ret (.call (.con (.ref A.f_all_x)) [.item (.loc 0) (.int 0)])]
noncomputable def z2v:List MS:=[.ret (.call (.con (.ref A.f_from_int)) [.item (.loc 0) (.int 0),.bin .Add (.item (.loc 0) (.int 1)) (.item (.loc 1) (.int 1))])]
noncomputable def add:List MS:=.ite (.or [.not (.call (.con (.ref A.f_is_known)) [.loc 0]),.not (.call (.con (.ref A.f_is_known)) [.loc 1])]) z2u []::z2v
noncomputable def z2w:List MS:=[.ret (.call (.con (.ref A.f_all_x)) [.item (.loc 0) (.int 0)])]
noncomputable def z2x:List MS:=[.ret (.call (.con (.ref A.f_from_int)) [.item (.loc 0) (.int 0),.bin .Sub (.item (.loc 0) (.int 1)) (.item (.loc 1) (.int 1))])]
noncomputable def sub:List MS:=.ite (.or [.not (.call (.con (.ref A.f_is_known)) [.loc 0]),.not (.call (.con (.ref A.f_is_known)) [.loc 1])]) z2w []::z2x
noncomputable def ordered:List MS:=[.asg (.nm 3) (.call (.con (.ref A.f_to_int)) [.loc 0,.loc 2]),.asg (.nm 4) (.call (.con (.ref A.f_to_int)) [.loc 1,.loc 2]),.ite (.or [.cmp .Is (.loc 3) .none,.cmp .Is (.loc 4) .none]) [.ret .none] [],.ite (.cmp .Eq (.loc 3) (.loc 4)) [.ret (.int 0)] [],.ret (.ite (.cmp .Lt (.loc 3) (.loc 4)) (.neg (.int 1)) (.int 1))]
noncomputable def less:List MS:=[.asg (.nm 3) (.call (.con (.ref A.f_ordered)) [.loc 0,.loc 1,.loc 2]),.ite (.cmp .Is (.loc 3) .none) [.ret (.call (.con (.ref A.f_all_x)) [.int 1])] [],.ret (.tup [.int 1,.ite (.cmp .Lt (.loc 3) (.int 0)) (.int 1) (.int 0),.int 0])]
noncomputable def one_bit:List MS:=[.ret (.tup [.int 1,.bin .BitAnd (.loc 0) (.int 1),.bin .RShift (.loc 0) (.int 1)])]
noncomputable def bit_not:List MS:=[.asg (.tup [1,2,3]) (.loc 0),.ret (.tup [.loc 1,.bin .BitOr (.bin .BitXor (.loc 2) (.call (.con (.ref A.f_mask)) [.loc 1])) (.loc 3),.loc 3])]
noncomputable def bit_and:List MS:=[.asg (.tup [2,3,4]) (.call (.con (.ref A.f_z_to_x)) [.loc 0]),.asg (.tup [5,6]) (.slice (.call (.con (.ref A.f_z_to_x)) [.loc 1]) (.int 1) .none),.asg (.nm 7) (.bin .BitAnd (.loc 3) (.loc 5)),.ret (.tup [.loc 2,.loc 7,.bin .BitAnd (.loc 7) (.bin .BitOr (.loc 4) (.loc 6))])]
noncomputable def bit_xor:List MS:=[.asg (.nm 2) (.bin .BitOr (.item (.loc 0) (.int 2)) (.item (.loc 1) (.int 2))),.ret (.tup [.item (.loc 0) (.int 0),.bin .BitOr (.bin .BitXor (.item (.loc 0) (.int 1)) (.item (.loc 1) (.int 1))) (.loc 2),.loc 2])]
noncomputable def equal:List MS:=[.asg (.nm 2) (.bin .BitOr (.item (.loc 0) (.int 2)) (.item (.loc 1) (.int 2))),.ite (.cmp .NotEq (.bin .BitAnd (.bin .BitXor (.item (.loc 0) (.int 1)) (.item (.loc 1) (.int 1))) (.bin .BitXor (.loc 2) (.call (.con (.ref A.f_mask)) [.item (.loc 0) (.int 0)]))) (.int 0)) [.ret (.call (.con (.ref A.f_one_bit)) [.int 0])] [],.ret (.call (.con (.ref A.f_one_bit)) [.ite (.cmp .Eq (.loc 2) (.int 0)) (.int 1) (.int 3)])]
noncomputable def not_equal:List MS:=[.ret (.call (.con (.ref A.f_bit_not)) [.call (.con (.ref A.f_equal)) [.loc 0,.loc 1]])]
noncomputable def z2c:List MS:=[.asg (.nm 4) (.bin .BitXor (.call (.con (.ref A.f_mask)) [.item (.loc 1) (.int 0)]) (.loc 3)),.ret (.and [.cmp .Eq (.bin .BitAnd (.bin .BitXor (.item (.loc 1) (.int 1)) (.item (.loc 2) (.int 1))) (.loc 4)) (.int 0),.cmp .Eq (.bin .BitAnd (.bin .BitXor (.item (.loc 1) (.int 2)) (.item (.loc 2) (.int 2))) (.loc 4)) (.int 0)])]
noncomputable def matchesV:List MS:=.asg (.nm 3) (.int 0)::.ite (.cmp .Eq (.loc 0) (.sym 135)) [.asg (.nm 3) (.bin .BitOr (.bin .BitAnd (.item (.loc 1) (.int 2)) (.bin .BitXor (.item (.loc 1) (.int 2)) (.item (.loc 1) (.int 1)))) (.bin .BitAnd (.item (.loc 2) (.int 2)) (.bin .BitXor (.item (.loc 2) (.int 2)) (.item (.loc 2) (.int 1)))))] [.ite (.cmp .Eq (.loc 0) (.sym 136)) [.asg (.nm 3) (.bin .BitOr (.item (.loc 1) (.int 2)) (.item (.loc 2) (.int 2)))] []]::z2c
noncomputable def choose:List MS:=[.asg (.nm 3) (.call (.con (.ref A.f_truth)) [.loc 0]),.ite (.cmp .Eq (.loc 3) (.int 1)) [.ret (.loc 1)] [],.ite (.cmp .Eq (.loc 3) (.int 0)) [.ret (.loc 2)] [],.asg (.nm 4) (.item (.loc 1) (.int 0)),.asg (.nm 5) (.bin .BitXor (.call (.con (.ref A.f_mask)) [.loc 4]) (.bin .BitOr (.bin .BitOr (.bin .BitXor (.item (.loc 1) (.int 1)) (.item (.loc 2) (.int 1))) (.item (.loc 1) (.int 2))) (.item (.loc 2) (.int 2)))),.asg (.nm 6) (.bin .BitXor (.call (.con (.ref A.f_mask)) [.loc 4]) (.loc 5)),.ret (.tup [.loc 4,.bin .BitOr (.bin .BitAnd (.item (.loc 1) (.int 1)) (.loc 5)) (.loc 6),.loc 6])]
noncomputable def arithmetic:List MS:=[.ite (.cmp .Eq (.loc 0) (.sym 7)) [.ret (.call (.con (.ref A.f_add)) [.loc 1,.loc 2])] [],.ite (.cmp .Eq (.loc 0) (.sym 8)) [.ret (.call (.con (.ref A.f_sub)) [.loc 1,.loc 2])] [],.ite (.cmp .Eq (.loc 0) (.sym 9)) [.ret (.call (.con (.ref A.f_mul)) [.loc 1,.loc 2])] [],.ite (.cmp .Eq (.loc 0) (.sym 10)) [.ret (.call (.con (.ref A.f_div)) [.loc 1,.loc 2,.loc 3])] [],.ite (.cmp .Eq (.loc 0) (.sym 11)) [.ret (.call (.con (.ref A.f_mod)) [.loc 1,.loc 2,.loc 3])] [],.ite (.or [.cmp .Eq (.loc 0) (.sym 12),.cmp .Eq (.loc 0) (.sym 13)]) [.ret (.call (.con (.ref A.f_shift_left)) [.loc 1,.loc 2])] [],.ite (.cmp .Eq (.loc 0) (.sym 14)) [.ret (.call (.con (.ref A.f_shift_right)) [.loc 1,.loc 2])] [],.ite (.cmp .Eq (.loc 0) (.sym 15)) [.ret (.call (.con (.ref A.f_shift_arith)) [.loc 1,.loc 2,.loc 3])] [],.ret .none]
noncomputable def comparison:List MS:=[.ite (.cmp .Eq (.loc 0) (.sym 16)) [.ret (.call (.con (.ref A.f_less)) [.loc 1,.loc 2,.loc 3])] [],.ite (.cmp .Eq (.loc 0) (.sym 17)) [.ret (.call (.con (.ref A.f_less_equal)) [.loc 1,.loc 2,.loc 3])] [],.ite (.cmp .Eq (.loc 0) (.sym 18)) [.ret (.call (.con (.ref A.f_greater)) [.loc 1,.loc 2,.loc 3])] [],.ite (.cmp .Eq (.loc 0) (.sym 19)) [.ret (.call (.con (.ref A.f_greater_equal)) [.loc 1,.loc 2,.loc 3])] [],.ite (.cmp .Eq (.loc 0) (.sym 20)) [.ret (.call (.con (.ref A.f_equal)) [.loc 1,.loc 2])] [],.ite (.cmp .Eq (.loc 0) (.sym 21)) [.ret (.call (.con (.ref A.f_not_equal)) [.loc 1,.loc 2])] [],.ite (.cmp .Eq (.loc 0) (.sym 22)) [.ret (.call (.con (.ref A.f_case_equal)) [.loc 1,.loc 2])] [],.ite (.cmp .Eq (.loc 0) (.sym 23)) [.ret (.call (.con (.ref A.f_case_not_equal)) [.loc 1,.loc 2])] [],.ret .none]
noncomputable def bitwise:List MS:=[.ite (.cmp .Eq (.loc 0) (.sym 24)) [.ret (.call (.con (.ref A.f_bit_and)) [.loc 1,.loc 2])] [],.ite (.cmp .Eq (.loc 0) (.sym 25)) [.ret (.call (.con (.ref A.f_bit_or)) [.loc 1,.loc 2])] [],.ite (.cmp .Eq (.loc 0) (.sym 26)) [.ret (.call (.con (.ref A.f_bit_xor)) [.loc 1,.loc 2])] [],.ite (.cmp .Eq (.loc 0) (.sym 27)) [.ret (.call (.con (.ref A.f_bit_xnor)) [.loc 1,.loc 2])] [],.ite (.cmp .Eq (.loc 0) (.sym 28)) [.ret (.call (.con (.ref A.f_logic_and)) [.loc 1,.loc 2])] [],.ite (.cmp .Eq (.loc 0) (.sym 29)) [.ret (.call (.con (.ref A.f_logic_or)) [.loc 1,.loc 2])] [],.ret .none]
noncomputable def binary:List MS:=[.asg (.nm 4) (.call (.con (.ref A.f_arithmetic)) [.loc 0,.loc 1,.loc 2,.loc 3]),.ite (.cmp .Is (.loc 4) .none) [.asg (.nm 4) (.call (.con (.ref A.f_comparison)) [.loc 0,.loc 1,.loc 2,.loc 3])] [],.ite (.cmp .Is (.loc 4) .none) [.asg (.nm 4) (.call (.con (.ref A.f_bitwise)) [.loc 0,.loc 1,.loc 2])] [],.ite (.cmp .Is (.loc 4) .none) [.rse (.call (.con (.ref A.c_DesignError)) [.sym 30,.neg (.int 1),.loc 0])] [],.ret (.loc 4)]
noncomputable def whole_of:List MS:=[.ret (.call (.con (.ref A.f_to_int)) [.call (.con (.ref A.f_evaluate)) [.loc 0,.loc 2],.loc 1])]
noncomputable def conditional:List MS:=[.asg (.nm 2) (.call (.con (.ref A.f_evaluate)) [.item (.loc 0) (.int 2),.loc 1]),.asg (.nm 3) (.call (.con (.ref A.f_truth)) [.loc 2]),.ite (.cmp .Eq (.loc 3) (.int 1)) [.ret (.call (.con (.ref A.f_evaluate)) [.item (.loc 0) (.int 3),.loc 1])] [],.ite (.cmp .Eq (.loc 3) (.int 0)) [.ret (.call (.con (.ref A.f_evaluate)) [.item (.loc 0) (.int 4),.loc 1])] [],.ret (.call (.con (.ref A.f_choose)) [.loc 2,.call (.con (.ref A.f_evaluate)) [.item (.loc 0) (.int 3),.loc 1],.call (.con (.ref A.f_evaluate)) [.item (.loc 0) (.int 4),.loc 1]])]
noncomputable def evaluate:List MS:=[.asg (.nm 2) (.item (.loc 0) (.int 0)),.ite (.cmp .Eq (.loc 2) (.sym 31)) [.ret (.tup [.item (.loc 0) (.int 1),.item (.loc 0) (.int 2),.item (.loc 0) (.int 3)])] [],.ite (.cmp .Eq (.loc 2) (.sym 32)) [.ret (.meth (.attr (.loc 1) 33) 3 [.item (.loc 0) (.int 2)])] [],.ite (.cmp .Eq (.loc 2) (.sym 34)) [.ret (.item (.attr (.loc 1) 35) (.item (.loc 0) (.int 2)))] [],.ite (.cmp .Eq (.loc 2) (.sym 36)) [.ret (.call (.con (.ref A.f_binary)) [.item (.loc 0) (.int 2),.call (.con (.ref A.f_evaluate)) [.item (.loc 0) (.int 3),.loc 1],.call (.con (.ref A.f_evaluate)) [.item (.loc 0) (.int 4),.loc 1],.item (.loc 0) (.int 5)])] [],.ite (.cmp .Eq (.loc 2) (.sym 37)) [.ret (.call (.con (.ref A.f_unary)) [.item (.loc 0) (.int 2),.call (.con (.ref A.f_evaluate)) [.item (.loc 0) (.int 3),.loc 1]])] [],.ite (.cmp .Eq (.loc 2) (.sym 38)) [.ret (.call (.con (.ref A.f_extend)) [.call (.con (.ref A.f_evaluate)) [.item (.loc 0) (.int 2),.loc 1],.item (.loc 0) (.int 1),.item (.loc 0) (.int 3)])] [],.ite (.cmp .Eq (.loc 2) (.sym 39)) [.ret (.call (.con (.ref A.f_slice_vec)) [.call (.con (.ref A.f_evaluate)) [.item (.loc 0) (.int 2),.loc 1],.item (.loc 0) (.int 3),.item (.loc 0) (.int 1)])] [],.ite (.cmp .Eq (.loc 2) (.sym 40)) [.ret (.call (.con (.ref A.f_picked)) [.loc 0,.loc 1])] [],.ite (.cmp .Eq (.loc 2) (.sym 41)) [.ret (.call (.con (.ref A.f_memory_word)) [.loc 0,.loc 1])] [],.ite (.cmp .Eq (.loc 2) (.sym 42)) [.ret (.call (.con (.ref A.f_conditional)) [.loc 0,.loc 1])] [],.ite (.cmp .Eq (.loc 2) (.sym 43)) [.ret (.call (.con (.ref A.f_concat)) [.comp (.call (.con (.ref A.f_evaluate)) [.loc 3,.loc 1]) [3] true .exp (.item (.loc 0) (.int 2)) .none []])] [],.ite (.cmp .Eq (.loc 2) (.sym 44)) [.ret (.call (.con (.ref A.f_power)) [.call (.con (.ref A.f_evaluate)) [.item (.loc 0) (.int 2),.loc 1],.call (.con (.ref A.f_evaluate)) [.item (.loc 0) (.int 3),.loc 1],.item (.loc 0) (.int 4),.item (.loc 0) (.int 5)])] [],.ite (.cmp .Eq (.loc 2) (.sym 45)) [.ret (.meth (.loc 1) 45 [.item (.loc 0) (.int 2),.comp (.call (.con (.ref A.f_evaluate)) [.loc 4,.loc 1]) [4] true .exp (.item (.loc 0) (.int 3)) .none []])] [],.ite (.cmp .Eq (.loc 2) (.sym 46)) [.ret (.call (.con (.ref A.f_system_value)) [.loc 0,.loc 1])] [],.rse (.call (.con (.ref A.c_DesignError)) [.sym 47,.neg (.int 1),.loc 2])]
noncomputable def locate:List MS:=[.ite (.cmp .Eq (.item (.loc 0) (.int 0)) (.sym 5)) [.ret (.item (.loc 0) (.int 1))] [],.asg (.nm 2) (.call (.con (.ref A.f_whole_of)) [.item (.loc 0) (.int 1),.item (.loc 0) (.int 2),.loc 1]),.ite (.cmp .Is (.loc 2) .none) [.ret .none] [],.ret (.bin .Mult (.bin .Sub (.loc 2) (.item (.loc 0) (.int 3))) (.item (.loc 0) (.int 4)))]
noncomputable def holder_width:List MS:=[.ite (.cmp .Eq (.item (.loc 0) (.int 0)) (.sym 32)) [.ret (.attr (.item (.attr (.attr (.loc 1) 33) 48) (.item (.loc 0) (.int 2))) 49)] [],.ret (.item (.item (.attr (.loc 1) 35) (.item (.loc 0) (.int 2))) (.int 0))]
noncomputable def resolve_target:List MS:=[.asg (.nm 2) (.list []),.asg (.nm 3) (.item (.loc 0) (.int 1)),.for (.nm 4) .exp (.item (.loc 0) (.int 2)) .none [.asg (.tup [5,6,7,8,9]) (.loc 4),.aug (.nm 3) .Sub (.loc 6),.asg (.nm 10) .none,.ite (.cmp .IsNot (.loc 8) .none) [.asg (.nm 11) (.call (.con (.ref A.f_whole_of)) [.item (.loc 8) (.int 0),.item (.loc 8) (.int 1),.loc 1]),.ite (.cmp .Is (.loc 11) .none) [.cont] [],.asg (.nm 10) (.meth (.item (.attr (.attr (.loc 1) 33) 48) (.loc 7)) 50 [.loc 11]),.ite (.cmp .Lt (.loc 10) (.int 0)) [.cont] []] [],.asg (.nm 12) (.call (.con (.ref A.f_locate)) [.loc 9,.loc 1]),.ite (.or [.cmp .Is (.loc 12) .none,.cmp .LtE (.bin .Add (.loc 12) (.loc 6)) (.int 0),.cmp .GtE (.loc 12) (.call (.con (.ref A.f_holder_width)) [.loc 4,.loc 1])]) [.cont] [],.expr (.meth (.loc 2) 0 [.tup [.loc 5,.loc 7,.loc 10,.loc 12,.loc 6,.loc 3]])],.ret (.loc 2)]
noncomputable def store_rows:List MS:=[.asg (.nm 3) .dI,.for (.tup [4,5,6,7,8,9]) .exp (.loc 0) .none [.asg (.nm 10) (.call (.con (.ref A.f_slice_vec)) [.loc 1,.loc 9,.loc 8]),.ite (.cmp .Eq (.loc 4) (.sym 32)) [.ite (.meth (.attr (.loc 2) 33) 51 [.loc 5,.loc 6,.loc 7,.loc 10]) [.asg (.item (.loc 3) (.loc 5)) (.bool true)] []] [.asg (.item (.attr (.loc 2) 35) (.loc 5)) (.call (.con (.ref A.f_put_slice)) [.item (.attr (.loc 2) 35) (.loc 5),.loc 7,.loc 10])]],.ret (.call (.con (.builtin "sorted")) [.loc 3])]
noncomputable def Store___init__:List MS:=[.asg (.attr (.loc 0) 48) (.loc 1),.asg (.attr (.loc 0) 52) .dI,.asg (.attr (.loc 0) 53) .dI,.asg (.attr (.loc 0) 54) (.int 1)]
noncomputable def Store_get:List MS:=[.asg (.nm 2) (.meth (.attr (.loc 0) 52) 3 [.loc 1]),.ite (.cmp .IsNot (.loc 2) .none) [.ret (.loc 2)] [],.asg (.nm 3) (.item (.attr (.loc 0) 48) (.loc 1)),.ite (.meth (.loc 3) 55 []) [.ret (.call (.con (.ref A.f_all_z)) [.attr (.loc 3) 49])] [],.ret (.call (.con (.ref A.f_all_x)) [.attr (.loc 3) 49])]
noncomputable def Store_set_bits:List MS:=[.ite (.cmp .Is (.loc 2) .none) [.asg (.nm 5) (.meth (.loc 0) 3 [.loc 1]),.asg (.nm 6) (.call (.con (.ref A.f_put_slice)) [.loc 5,.loc 3,.loc 4]),.ite (.cmp .Eq (.loc 6) (.loc 5)) [.ret (.bool false)] [],.asg (.item (.attr (.loc 0) 52) (.loc 1)) (.loc 6),.ret (.bool true)] [],.ite (.or [.cmp .Lt (.loc 2) (.int 0),.cmp .GtE (.loc 2) (.meth (.item (.attr (.loc 0) 48) (.loc 1)) 56 [])]) [.ret (.bool false)] [],.asg (.nm 5) (.meth (.loc 0) 41 [.loc 1,.loc 2]),.asg (.nm 6) (.call (.con (.ref A.f_put_slice)) [.loc 5,.loc 3,.loc 4]),.ite (.cmp .Eq (.loc 6) (.loc 5)) [.ret (.bool false)] [],.ite (.cmp .NotIn (.loc 1) (.attr (.loc 0) 53)) [.asg (.item (.attr (.loc 0) 53) (.loc 1)) .dI] [],.asg (.item (.item (.attr (.loc 0) 53) (.loc 1)) (.loc 2)) (.loc 6),.ret (.bool true)]
noncomputable def Context___init__:List MS:=[.asg (.attr (.loc 0) 33) (.loc 1),.asg (.attr (.loc 0) 35) (.loc 2),.asg (.attr (.loc 0) 57) (.loc 3)]
noncomputable def FunctionContext___init__:List MS:=[.expr (.meth (.con (.ref A.c_Context)) 58 [.loc 0,.loc 2,.loc 3,.loc 4]),.asg (.attr (.loc 0) 59) (.loc 1),.asg (.attr (.loc 0) 60) (.loc 5),.asg (.attr (.loc 0) 61) (.int 0),.asg (.attr (.loc 0) 62) .dI]
noncomputable def FunctionContext_call:List MS:=[.ite (.cmp .GtE (.attr (.loc 0) 61) (.gint 24)) [.rse (.call (.con (.ref A.c_LimitReached)) [.sym 63])] [],.asg (.nm 3) (.meth (.attr (.loc 0) 59) 64 [.loc 1]),.asg (.nm 4) (.attr (.loc 0) 35),.asg (.attr (.loc 0) 35) (.meth (.loc 0) 65 [.loc 3,.loc 2]),.aug (.attr (.loc 0) 61) .Add (.int 1),.tryF [.expr (.call (.con (.ref A.f_run_statement)) [.attr (.loc 3) 66,.loc 0]),.asg (.nm 5) (.item (.attr (.loc 0) 35) (.int 0))] [.asg (.attr (.loc 0) 35) (.loc 4),.aug (.attr (.loc 0) 61) .Sub (.int 1)],.ret (.loc 5)]
noncomputable def z1w:List MS:=[.ite (.and [.cmp .Eq (.loc 5) (.sym 69),.cmp .Lt (.loc 4) (.call (.con (.builtin "len")) [.loc 2])]) [.ite (.cmp .Eq (.loc 8) (.sym 34)) [.asg (.item (.loc 3) (.loc 9)) (.call (.con (.ref A.f_extend)) [.item (.loc 2) (.loc 4),.loc 6,.loc 7])] [.ite (.meth (.attr (.loc 0) 33) 51 [.loc 9,.none,.int 0,.call (.con (.ref A.f_extend)) [.item (.loc 2) (.loc 4),.loc 6,.loc 7]]) [.asg (.item (.attr (.loc 0) 62) (.loc 9)) (.bool true)] []],.aug (.nm 4) .Add (.int 1)] []]
noncomputable def FunctionContext_new_frame:List MS:=[.asg (.nm 3) (.comp (.call (.con (.ref A.f_all_x)) [.loc 10]) [10] true .exp (.attr (.loc 1) 67) .none []),.asg (.nm 4) (.int 0),.for (.tup [5,6,7,8,9]) .exp (.attr (.loc 1) 68) .none z1w,.ret (.loc 3)]
noncomputable def FunctionContext_burn:List MS:=[.ite (.cmp .LtE (.attr (.loc 0) 60) (.int 0)) [.rse (.call (.con (.ref A.c_LimitReached)) [.sym 70])] [],.aug (.attr (.loc 0) 60) .Sub (.int 1)]
noncomputable def FunctionContext_is_true:List MS:=[.ret (.cmp .Eq (.call (.con (.ref A.f_truth)) [.call (.con (.ref A.f_evaluate)) [.loc 1,.loc 0]]) (.int 1))]
noncomputable def run_block:List MS:=[.for (.nm 2) .exp (.item (.loc 0) (.int 1)) .none [.asg (.nm 3) (.call (.con (.ref A.f_run_statement)) [.loc 2,.loc 1]),.ite (.cmp .IsNot (.loc 3) .none) [.ite (.cmp .Eq (.loc 3) (.item (.loc 0) (.int 2))) [.ret .none] [],.ret (.loc 3)] []],.ret .none]
noncomputable def run_set:List MS:=[.ite (.cmp .IsNot (.item (.loc 0) (.int 3)) .none) [.rse (.call (.con (.ref A.c_DesignError)) [.sym 71])] [],.asg (.nm 2) (.call (.con (.ref A.f_evaluate)) [.item (.loc 0) (.int 2),.loc 1]),.for (.nm 3) .exp (.call (.con (.ref A.f_store_rows)) [.call (.con (.ref A.f_resolve_target)) [.item (.loc 0) (.int 1),.loc 1],.loc 2,.loc 1]) .none [.asg (.item (.attr (.loc 1) 62) (.loc 3)) (.bool true)],.ret .none]
noncomputable def z2l:List MS:=[.ite (.call (.con (.ref A.f_matchesV)) [.item (.loc 0) (.int 1),.loc 2,.call (.con (.ref A.f_evaluate)) [.loc 6,.loc 1]]) [.ret (.call (.con (.ref A.f_run_statement)) [.loc 5,.loc 1])] []]
noncomputable def z2d:List MS:=[.ite (.cmp .Is (.loc 4) .none) [.asg (.nm 3) (.loc 5),.cont] [],.for (.nm 6) .exp (.loc 4) .none z2l]
noncomputable def run_case:List MS:=[.asg (.nm 2) (.call (.con (.ref A.f_evaluate)) [.item (.loc 0) (.int 2),.loc 1]),.asg (.nm 3) .none,.for (.tup [4,5]) .exp (.item (.loc 0) (.int 3)) .none z2d,.ret (.call (.con (.ref A.f_run_statement)) [.loc 3,.loc 1])]
noncomputable def run_while:List MS:=[.whl (.or [.cmp .Is (.loc 0) .none,.meth (.loc 3) 72 [.loc 0]]) [.expr (.meth (.loc 3) 73 []),.asg (.nm 4) (.call (.con (.ref A.f_run_statement)) [.loc 1,.loc 3]),.ite (.cmp .IsNot (.loc 4) .none) [.ret (.loc 4)] [],.expr (.call (.con (.ref A.f_run_statement)) [.loc 2,.loc 3])],.ret .none]
noncomputable def run_repeat:List MS:=[.asg (.nm 2) (.call (.con (.ref A.f_to_int)) [.call (.con (.ref A.f_evaluate)) [.item (.loc 0) (.int 1),.loc 1],.item (.loc 0) (.int 2)]),.ite (.cmp .Is (.loc 2) .none) [.ret .none] [],.whl (.cmp .Gt (.loc 2) (.int 0)) [.aug (.nm 2) .Sub (.int 1),.expr (.meth (.loc 1) 73 []),.asg (.nm 3) (.call (.con (.ref A.f_run_statement)) [.item (.loc 0) (.int 3),.loc 1]),.ite (.cmp .IsNot (.loc 3) .none) [.ret (.loc 3)] []],.ret .none]
noncomputable def run_for:List MS:=[.expr (.call (.con (.ref A.f_run_statement)) [.item (.loc 0) (.int 1),.loc 1]),.ret (.call (.con (.ref A.f_run_while)) [.item (.loc 0) (.int 2),.item (.loc 0) (.int 4),.item (.loc 0) (.int 3),.loc 1])]
noncomputable def z1z:List MS:=[.ite (.cmp .Eq (.loc 2) (.sym 74)) [.ret (.call (.con (.ref A.f_run_set)) [.loc 0,.loc 1])] [],.ite (.cmp .Eq (.loc 2) (.sym 75)) [.ret (.call (.con (.ref A.f_run_block)) [.loc 0,.loc 1])] [],.ite (.cmp .Eq (.loc 2) (.sym 76)) [.ite (.meth (.loc 1) 72 [.item (.loc 0) (.int 1)]) [.ret (.call (.con (.ref A.f_run_statement)) [.item (.loc 0) (.int 2),.loc 1])] [],.ret (.call (.con (.ref A.f_run_statement)) [.item (.loc 0) (.int 3),.loc 1])] [],.ite (.cmp .Eq (.loc 2) (.sym 77)) [.ret (.call (.con (.ref A.f_run_case)) [.loc 0,.loc 1])] [],.ite (.cmp .Eq (.loc 2) (.sym 78)) [.ret (.call (.con (.ref A.f_run_for)) [.loc 0,.loc 1])] [],.ite (.cmp .Eq (.loc 2) (.sym 79)) [.ret (.call (.con (.ref A.f_run_while)) [.item (.loc 0) (.int 1),.item (.loc 0) (.int 2),.none,.loc 1])] [],.ite (.cmp .Eq (.loc 2) (.sym 80)) [.ret (.call (.con (.ref A.f_run_repeat)) [.loc 0,.loc 1])] [],.ite (.cmp .Eq (.loc 2) (.sym 81)) [.ret (.call (.con (.ref A.f_run_while)) [.none,.item (.loc 0) (.int 1),.none,.loc 1])] [],.ite (.cmp .Eq (.loc 2) (.sym 82)) [.ret (.item (.loc 0) (.int 1))] [],.rse (.call (.con (.ref A.c_DesignError)) [.sym 83,.neg (.int 1),.loc 2])]
noncomputable def run_statement:List MS:=.ite (.cmp .Is (.loc 0) .none) [.ret .none] []::.expr (.meth (.loc 1) 73 [])::.asg (.nm 2) (.item (.loc 0) (.int 0))::z1z
noncomputable def Routine___init__:List MS:=[.asg (.attr (.loc 0) 102) (.loc 1),.asg (.attr (.loc 0) 94) (.loc 2),.asg (.attr (.loc 0) 103) (.loc 3),.asg (.attr (.loc 0) 104) (.loc 4),.asg (.attr (.loc 0) 5) (.loc 5),.asg (.attr (.loc 0) 49) (.int 1),.asg (.attr (.loc 0) 95) (.bool false),.asg (.attr (.loc 0) 68) (.list []),.asg (.attr (.loc 0) 67) (.list []),.asg (.attr (.loc 0) 66) .none,.asg (.attr (.loc 0) 105) .none,.asg (.attr (.loc 0) 106) .none,.asg (.attr (.loc 0) 107) (.neg (.int 1)),.asg (.attr (.loc 0) 108) (.bool false)]
noncomputable def z2f:List MS:=[.asg (.attr (.loc 0) 113) (.list []),.asg (.attr (.loc 0) 114) (.list []),.asg (.attr (.loc 0) 115) (.list []),.asg (.attr (.loc 0) 68) (.list []),.asg (.attr (.loc 0) 116) .none,.asg (.attr (.loc 0) 117) .dS]
noncomputable def Design___init__:List MS:=.asg (.attr (.loc 0) 48) (.list [])::.asg (.attr (.loc 0) 109) (.list [])::.asg (.attr (.loc 0) 110) (.list [])::.asg (.attr (.loc 0) 111) (.list [])::.asg (.attr (.loc 0) 112) (.list [])::z2f
noncomputable def Design_add_routine:List MS:=[.asg (.nm 5) (.call (.con (.ref A.c_Routine)) [.call (.con (.builtin "len")) [.attr (.loc 0) 113],.loc 1,.loc 2,.loc 3,.loc 4]),.expr (.meth (.attr (.loc 0) 113) 0 [.loc 5]),.ret (.loc 5)]
noncomputable def Design_routine:List MS:=[.asg (.nm 2) (.item (.attr (.loc 0) 113) (.loc 1)),.ite (.not (.attr (.loc 2) 108)) [.asg (.attr (.loc 2) 108) (.bool true),.ite (.cmp .IsNot (.attr (.loc 0) 116) .none) [.expr (.meth (.attr (.loc 0) 116) 118 [.loc 1])] []] [],.ret (.loc 2)]
noncomputable def z2m:List MS:=[.expr (.meth (.loc 1) 0 [.bin .Mod (.loc 3) (.int 1024)]),.asg (.nm 3) (.bin .FloorDiv (.loc 3) (.int 1024)),.for (.nm 4) .range (.int 30) .none [.ite (.cmp .Gt (.loc 3) (.int 0)) [.expr (.meth (.loc 1) 0 [.bin .Mod (.loc 3) (.int 1024)]),.asg (.nm 3) (.bin .FloorDiv (.loc 3) (.int 1024))] []]]
noncomputable def xlaw_row:List MS:=[.asg (.nm 1) (.list []),.for (.nm 2) .exp (.slice (.loc 0) .none (.int 40)) .none (.asg (.nm 3) (.ite (.cmp .GtE (.loc 2) (.int 0)) (.loc 2) (.bin .Sub (.int 7) (.loc 2)))::z2m),.asg (.nm 1) (.slice (.loc 1) .none (.int 160)),.expr (.meth (.loc 1) 2 []),.ret (.loc 1)]
noncomputable def xlaw_next:List MS:=[.ret (.ite (.cmp .NotEq (.loc 0) (.list [])) (.meth (.loc 0) 1 []) (.int 0))]
noncomputable def xlaw_bits:List MS:=[.asg (.nm 2) (.list []),.for (.nm 3) .range (.bin .FloorDiv (.bin .Add (.loc 1) (.int 4)) (.int 5)) .none [.asg (.nm 4) (.call (.con (.ref A.f__law_next)) [.loc 0]),.for (.nm 5) .range (.int 5) .none [.expr (.meth (.loc 2) 0 [.bin .Mod (.loc 4) (.int 4)]),.asg (.nm 4) (.bin .FloorDiv (.loc 4) (.int 4))]],.ret (.slice (.loc 2) .none (.loc 1))]
noncomputable def xlaw_made:List MS:=[.asg (.nm 1) (.int 0),.asg (.nm 2) (.int 0),.for (.nm 3) .range (.call (.con (.builtin "len")) [.loc 0]) .none [.aug (.nm 1) .Add (.bin .Mult (.bin .Mod (.item (.loc 0) (.loc 3)) (.int 2)) (.bin .Pow (.int 2) (.loc 3))),.aug (.nm 2) .Add (.bin .Mult (.bin .FloorDiv (.item (.loc 0) (.loc 3)) (.int 2)) (.bin .Pow (.int 2) (.loc 3)))],.ret (.tup [.call (.con (.builtin "len")) [.loc 0],.loc 1,.loc 2])]
noncomputable def z2e:List MS:=[.ite (.cmp .Eq (.loc 2) (.int 0)) [.ret (.bin .Add (.tup [.sym 31]) (.call (.con (.ref A.f__law_made)) [.call (.con (.ref A.f__law_bits)) [.loc 0,.int 4]]))] [],.ite (.cmp .Eq (.loc 2) (.int 1)) [.ret (.tup [.sym 34,.int 4,.bin .Mod (.call (.con (.ref A.f__law_next)) [.loc 0]) (.int 4)])] [],.asg (.nm 3) (.call (.con (.ref A.f__law_expr)) [.loc 0,.bin .Sub (.loc 1) (.int 1)]),.asg (.nm 4) (.call (.con (.ref A.f__law_expr)) [.loc 0,.bin .Sub (.loc 1) (.int 1)]),.ite (.cmp .Lt (.loc 2) (.int 5)) [.ret (.tup [.sym 36,.int 4,.item (.list [.sym 7,.sym 8,.sym 24]) (.bin .Sub (.loc 2) (.int 2)),.loc 3,.loc 4,.bool false])] [],.ret (.tup [.sym 42,.int 4,.call (.con (.ref A.f__law_test)) [.loc 0],.loc 3,.loc 4])]
noncomputable def xlaw_expr:List MS:=.asg (.nm 2) (.bin .Mod (.call (.con (.ref A.f__law_next)) [.loc 0]) (.ite (.cmp .Gt (.loc 1) (.int 0)) (.int 7) (.int 2)))::z2e
noncomputable def xlaw_test:List MS:=[.asg (.nm 1) (.call (.con (.ref A.f__law_expr)) [.loc 0,.int 0]),.ret (.tup [.sym 36,.int 1,.item (.list [.sym 16,.sym 20,.sym 21]) (.bin .Mod (.call (.con (.ref A.f__law_next)) [.loc 0]) (.int 3)),.loc 1,.call (.con (.ref A.f__law_expr)) [.loc 0,.int 0],.bool false])]
noncomputable def xlaw_set:List MS:=[.asg (.nm 2) (.bin .Mod (.call (.con (.ref A.f__law_next)) [.loc 0]) (.int 4)),.ite (.cmp .Eq (.bin .Mod (.call (.con (.ref A.f__law_next)) [.loc 0]) (.int 3)) (.int 2)) [.asg (.nm 3) (.bin .Sub (.bin .Mod (.call (.con (.ref A.f__law_next)) [.loc 0]) (.int 6)) (.int 1)),.asg (.nm 4) (.tup [.sym 34,.int 2,.loc 2,.none,.tup [.sym 5,.loc 3]]),.ret (.tup [.sym 74,.tup [.sym 119,.int 2,.tup [.loc 4]],.tup [.sym 39,.int 2,.call (.con (.ref A.f__law_expr)) [.loc 0,.loc 1],.int 1],.none])] [],.ret (.tup [.sym 74,.tup [.sym 119,.int 4,.tup [.tup [.sym 34,.int 4,.loc 2,.none,.tup [.sym 5,.int 0]]]],.call (.con (.ref A.f__law_expr)) [.loc 0,.loc 1],.none])]
noncomputable def z2a:List MS:=[.ite (.cmp .Eq (.loc 2) (.int 0)) [.ret (.call (.con (.ref A.f__law_set)) [.loc 0,.int 2])] [],.ite (.cmp .Eq (.loc 2) (.int 1)) [.ret (.item (.list [.none,.tup [.sym 82,.bin .Add (.int 3) (.bin .Mod (.call (.con (.ref A.f__law_next)) [.loc 0]) (.int 2))]]) (.bin .Mod (.call (.con (.ref A.f__law_next)) [.loc 0]) (.int 2)))] [],.asg (.nm 3) (.call (.con (.ref A.f__law_statement)) [.loc 0,.bin .Sub (.loc 1) (.int 1)]),.ite (.cmp .Eq (.loc 2) (.int 2)) [.ret (.tup [.sym 76,.call (.con (.ref A.f__law_test)) [.loc 0],.loc 3,.call (.con (.ref A.f__law_statement)) [.loc 0,.bin .Sub (.loc 1) (.int 1)]])] [],.ite (.cmp .Eq (.loc 2) (.int 3)) [.asg (.nm 4) (.tup [.call (.con (.ref A.f__law_expr)) [.loc 0,.int 0],.call (.con (.ref A.f__law_expr)) [.loc 0,.int 0]]),.asg (.nm 5) (.list [.tup [.loc 4,.loc 3],.tup [.none,.call (.con (.ref A.f__law_statement)) [.loc 0,.bin .Sub (.loc 1) (.int 1)]],.tup [.tup [.call (.con (.ref A.f__law_expr)) [.loc 0,.int 0]],.call (.con (.ref A.f__law_statement)) [.loc 0,.bin .Sub (.loc 1) (.int 1)]]]),.ret (.tup [.sym 77,.item (.list [.sym 77,.sym 135,.sym 136]) (.bin .Mod (.call (.con (.ref A.f__law_next)) [.loc 0]) (.int 3)),.call (.con (.ref A.f__law_expr)) [.loc 0,.int 1],.call (.con (.type "tuple")) [.loc 5]])] [],.ite (.cmp .Eq (.loc 2) (.int 4)) [.ret (.tup [.sym 79,.call (.con (.ref A.f__law_test)) [.loc 0],.tup [.sym 75,.tup [.loc 3,.call (.con (.ref A.f__law_set)) [.loc 0,.int 1]],.neg (.int 1)]])] [],.ite (.cmp .Eq (.loc 2) (.int 5)) [.ret (.tup [.sym 80,.call (.con (.ref A.f__law_expr)) [.loc 0,.int 1],.cmp .Eq (.bin .Mod (.call (.con (.ref A.f__law_next)) [.loc 0]) (.int 2)) (.int 1),.loc 3])] [],.ite (.cmp .Eq (.loc 2) (.int 6)) [.ret (.tup [.sym 78,.call (.con (.ref A.f__law_set)) [.loc 0,.int 0],.call (.con (.ref A.f__law_test)) [.loc 0],.call (.con (.ref A.f__law_set)) [.loc 0,.int 1],.loc 3])] [],.ret (.tup [.sym 75,.tup [.loc 3,.call (.con (.ref A.f__law_statement)) [.loc 0,.bin .Sub (.loc 1) (.int 1)],.call (.con (.ref A.f__law_set)) [.loc 0,.int 1]],.item (.list [.neg (.int 1),.int 3,.int 4]) (.bin .Mod (.call (.con (.ref A.f__law_next)) [.loc 0]) (.int 3))])]
noncomputable def xlaw_statement:List MS:=.asg (.nm 2) (.bin .Mod (.call (.con (.ref A.f__law_next)) [.loc 0]) (.ite (.cmp .Gt (.loc 1) (.int 0)) (.int 9) (.int 2)))::z2a
noncomputable def xlaw_codes:List MS:=[.ret (.comp (.bin .Add (.bin .Mod (.bin .FloorDiv (.item (.loc 0) (.int 2)) (.bin .Pow (.int 2) (.loc 1))) (.int 2)) (.bin .Mult (.bin .Mod (.bin .FloorDiv (.item (.loc 0) (.int 3)) (.bin .Pow (.int 2) (.loc 1))) (.int 2)) (.int 2))) [1] true .range (.item (.loc 0) (.int 1)) .none [])]
noncomputable def xlaw_figure:List MS:=[.asg (.nm 1) (.int 0),.for (.nm 2) .range (.call (.con (.builtin "len")) [.loc 0]) .none [.ite (.cmp .Gt (.item (.loc 0) (.loc 2)) (.int 1)) [.ret .none] [],.aug (.nm 1) .Add (.bin .Mult (.item (.loc 0) (.loc 2)) (.bin .Pow (.int 2) (.loc 2)))],.ret (.loc 1)]
noncomputable def xlaw_same:List MS:=[.for (.tup [2,3]) .zip (.loc 0) (.loc 1) [.ite (.and [.cmp .Lt (.loc 2) (.int 2),.cmp .Lt (.loc 3) (.int 2),.cmp .NotEq (.loc 2) (.loc 3)]) [.ret (.int 0)] []],.ret (.ite (.cmp .Lt (.call (.con (.builtin "max")) [.bin .Add (.loc 0) (.loc 1)]) (.int 2)) (.int 1) (.int 3))]
noncomputable def z2b:List MS:=[.ret (.comp (.bin .Mod (.bin .FloorDiv (.loc 8) (.bin .Pow (.int 2) (.loc 13))) (.int 2)) [13] true .range (.item (.loc 0) (.int 1)) .none [])]
noncomputable def z2h:List MS:=.ite (.or [.cmp .Is (.loc 6) .none,.cmp .Is (.loc 7) .none]) [.ret (.bin .Mult (.list [.int 3]) (.item (.loc 0) (.int 1)))] []::.ite (.cmp .Eq (.item (.loc 0) (.int 2)) (.sym 16)) [.ret (.list [.ite (.cmp .Lt (.loc 6) (.loc 7)) (.int 1) (.int 0)])] []::.asg (.nm 8) (.ite (.cmp .Eq (.item (.loc 0) (.int 2)) (.sym 7)) (.bin .Add (.loc 6) (.loc 7)) (.bin .Sub (.loc 6) (.loc 7)))::z2b
noncomputable def z1y:List MS:=.ite (.cmp .Eq (.item (.loc 0) (.int 2)) (.sym 24)) [.ret (.comp (.ite (.or [.cmp .Eq (.loc 11) (.int 0),.cmp .Eq (.loc 12) (.int 0)]) (.int 0) (.ite (.and [.cmp .Eq (.loc 11) (.int 1),.cmp .Eq (.loc 12) (.int 1)]) (.int 1) (.int 3))) [11,12] false .zip (.loc 3) (.loc 4) [])] []::.ite (.cmp .In (.item (.loc 0) (.int 2)) (.tup [.sym 20,.sym 21])) [.asg (.nm 5) (.call (.con (.ref A.f__law_same)) [.loc 3,.loc 4]),.ret (.list [.ite (.or [.cmp .Eq (.loc 5) (.int 3),.cmp .Eq (.item (.loc 0) (.int 2)) (.sym 20)]) (.loc 5) (.bin .Sub (.int 1) (.loc 5))])] []::.asg (.nm 6) (.call (.con (.ref A.f__law_figure)) [.loc 3])::.asg (.nm 7) (.call (.con (.ref A.f__law_figure)) [.loc 4])::z2h
noncomputable def xlaw_value:List MS:=.ite (.cmp .Eq (.item (.loc 0) (.int 0)) (.sym 31)) [.ret (.call (.con (.ref A.f__law_codes)) [.loc 0])] []::.ite (.cmp .Eq (.item (.loc 0) (.int 0)) (.sym 34)) [.ret (.call (.con (.type "list")) [.item (.loc 1) (.item (.loc 0) (.int 2))])] []::.ite (.cmp .Eq (.item (.loc 0) (.int 0)) (.sym 39)) [.ret (.slice (.call (.con (.ref A.f__law_value)) [.item (.loc 0) (.int 2),.loc 1]) (.item (.loc 0) (.int 3)) (.bin .Add (.item (.loc 0) (.int 3)) (.item (.loc 0) (.int 1))))] []::.ite (.cmp .Eq (.item (.loc 0) (.int 0)) (.sym 42)) [.asg (.nm 2) (.item (.call (.con (.ref A.f__law_value)) [.item (.loc 0) (.int 2),.loc 1]) (.int 0)),.asg (.nm 3) (.call (.con (.ref A.f__law_value)) [.item (.loc 0) (.int 3),.loc 1]),.asg (.nm 4) (.call (.con (.ref A.f__law_value)) [.item (.loc 0) (.int 4),.loc 1]),.ret (.item (.list [.loc 4,.loc 3,.list [],.comp (.ite (.and [.cmp .Eq (.loc 9) (.loc 10),.cmp .Lt (.loc 9) (.int 2)]) (.loc 9) (.int 3)) [9,10] false .zip (.loc 3) (.loc 4) []]) (.loc 2))] []::.asg (.nm 3) (.call (.con (.ref A.f__law_value)) [.item (.loc 0) (.int 3),.loc 1])::.asg (.nm 4) (.call (.con (.ref A.f__law_value)) [.item (.loc 0) (.int 4),.loc 1])::z1y
noncomputable def z2i:List MS:=[.aug (.item (.loc 0) (.int 0)) .Sub (.int 1),.ret (.item (.loc 0) (.int 1))]
noncomputable def xlaw_burnt:List MS:=.ite (.cmp .LtE (.item (.loc 0) (.int 0)) (.int 0)) [.asg (.item (.loc 0) (.int 1)) (.bool true)] []::z2i
noncomputable def xlaw_meets:List MS:=[.asg (.nm 3) (.item (.dK [77,135,136] [.list [],.list [.int 2],.list [.int 2,.int 3]]) (.loc 0)),.for (.tup [4,5]) .zip (.loc 1) (.loc 2) [.ite (.and [.cmp .NotEq (.loc 4) (.loc 5),.cmp .NotIn (.loc 4) (.loc 3),.cmp .NotIn (.loc 5) (.loc 3)]) [.ret (.bool false)] []],.ret (.bool true)]
noncomputable def z2j:List MS:=[.ite (.or [.cmp .NotEq (.call (.con (.ref A.f__law_value)) [.loc 0,.loc 3]) (.list [.int 1]),.call (.con (.ref A.f__law_burnt)) [.loc 4]]) [.ret .none] [],.asg (.nm 6) (.call (.con (.ref A.f__law_run)) [.loc 1,.loc 3,.loc 4]),.ite (.or [.cmp .IsNot (.loc 6) .none,.item (.loc 4) (.int 1)]) [.ret (.loc 6)] [],.expr (.call (.con (.ref A.f__law_run)) [.loc 2,.loc 3,.loc 4]),.ite (.item (.loc 4) (.int 1)) [.ret .none] []]
noncomputable def xlaw_loop:List MS:=[.for (.nm 5) .range (.int 200) .none z2j,.ret .none]
noncomputable def z2n:List MS:=[.ite (.cmp2 .LtE .Lt (.int 0) (.bin .Add (.item (.loc 7) (.int 1)) (.loc 9)) (.int 4)) [.asg (.item (.item (.loc 1) (.loc 5)) (.bin .Add (.item (.loc 7) (.int 1)) (.loc 9))) (.item (.loc 8) (.loc 9))] []]
noncomputable def z1x:List MS:=[.ite (.and [.cmp .IsNot (.loc 14) .none,.cmp .In (.bool true) (.comp (.call (.con (.ref A.f__law_meets)) [.item (.loc 0) (.int 1),.loc 12,.call (.con (.ref A.f__law_value)) [.loc 19,.loc 1]]) [19] true .exp (.loc 14) .none [])]) [.asg (.nm 13) (.list [.loc 10])] []]
noncomputable def z2k:List MS:=[.ite (.call (.con (.ref A.f__law_burnt)) [.loc 2]) [.ret .none] [],.asg (.nm 11) (.call (.con (.ref A.f__law_run)) [.item (.loc 0) (.int 3),.loc 1,.loc 2]),.ite (.or [.cmp .IsNot (.loc 11) .none,.item (.loc 2) (.int 1)]) [.ret (.loc 11)] []]
noncomputable def z2g:List MS:=[.ite (.cmp .Eq (.item (.loc 0) (.int 0)) (.sym 82)) [.ret (.item (.loc 0) (.int 1))] [],.ite (.cmp .Eq (.item (.loc 0) (.int 0)) (.sym 74)) [.asg (.tup [3,4,5,6,7]) (.item (.item (.item (.loc 0) (.int 1)) (.int 2)) (.int 0)),.ite (.cmp .Eq (.item (.item (.loc 0) (.int 2)) (.int 0)) (.sym 45)) [.asg (.nm 8) (.call (.con (.ref A.f__law_called)) [.item (.item (.loc 0) (.int 2)) (.int 3),.loc 1,.loc 2])] [.asg (.nm 8) (.call (.con (.ref A.f__law_value)) [.item (.loc 0) (.int 2),.loc 1])],.ite (.not (.item (.loc 2) (.int 1))) [.for (.nm 9) .range (.loc 4) .none z2n] [],.ret .none] [],.ite (.cmp .Eq (.item (.loc 0) (.int 0)) (.sym 76)) [.ret (.call (.con (.ref A.f__law_run)) [.ite (.cmp .Eq (.call (.con (.ref A.f__law_value)) [.item (.loc 0) (.int 1),.loc 1]) (.list [.int 1])) (.item (.loc 0) (.int 2)) (.item (.loc 0) (.int 3)),.loc 1,.loc 2])] [],.ite (.cmp .Eq (.item (.loc 0) (.int 0)) (.sym 75)) [.for (.nm 10) .exp (.item (.loc 0) (.int 1)) .none [.asg (.nm 11) (.call (.con (.ref A.f__law_run)) [.loc 10,.loc 1,.loc 2]),.ite (.item (.loc 2) (.int 1)) [.ret .none] [],.ite (.cmp .IsNot (.loc 11) .none) [.ret (.ite (.cmp .Eq (.loc 11) (.item (.loc 0) (.int 2))) .none (.loc 11))] []],.ret .none] [],.ite (.cmp .Eq (.item (.loc 0) (.int 0)) (.sym 77)) [.asg (.nm 12) (.call (.con (.ref A.f__law_value)) [.item (.loc 0) (.int 2),.loc 1]),.asg (.nm 13) (.comp (.loc 18) [17,18] false .exp (.item (.loc 0) (.int 3)) .none [.cmp .Is (.loc 17) .none]),.for (.tup [14,10]) .exp (.rev (.item (.loc 0) (.int 3))) .none z1x,.ret (.call (.con (.ref A.f__law_run)) [.item (.loc 13) (.int 0),.loc 1,.loc 2])] [],.ite (.cmp .Eq (.item (.loc 0) (.int 0)) (.sym 79)) [.ret (.call (.con (.ref A.f__law_loop)) [.item (.loc 0) (.int 1),.item (.loc 0) (.int 2),.none,.loc 1,.loc 2])] [],.ite (.cmp .Eq (.item (.loc 0) (.int 0)) (.sym 78)) [.expr (.call (.con (.ref A.f__law_run)) [.item (.loc 0) (.int 1),.loc 1,.loc 2]),.ret (.ite (.item (.loc 2) (.int 1)) .none (.call (.con (.ref A.f__law_loop)) [.item (.loc 0) (.int 2),.item (.loc 0) (.int 4),.item (.loc 0) (.int 3),.loc 1,.loc 2]))] [],.asg (.nm 15) (.call (.con (.ref A.f__law_figure)) [.call (.con (.ref A.f__law_value)) [.item (.loc 0) (.int 1),.loc 1]]),.ite (.or [.cmp .Is (.loc 15) .none,.and [.item (.loc 0) (.int 2),.cmp .Gt (.loc 15) (.int 7)]]) [.ret .none] [],.for (.nm 16) .range (.loc 15) .none z2k,.ret .none]
noncomputable def xlaw_run:List MS:=.ite (.or [.cmp .Is (.loc 0) .none,.call (.con (.ref A.f__law_burnt)) [.loc 2]]) [.ret .none] []::z2g
noncomputable def xlaw_called:List MS:=[.ret (.call (.con (.ref A.f__law_entered)) [.call (.con (.ref A.f__law_value)) [.item (.loc 0) (.int 0),.loc 1],.call (.con (.ref A.f__law_value)) [.item (.loc 0) (.int 1),.loc 1],.loc 2])]
noncomputable def xlaw_entered:List MS:=[.asg (.nm 3) (.list [.bin .Mult (.list [.int 3]) (.int 4),.loc 0,.loc 1,.bin .Mult (.list [.int 3]) (.int 4)]),.expr (.call (.con (.ref A.f__law_run)) [.item (.loc 2) (.int 2),.loc 3,.loc 2]),.ret (.item (.loc 3) (.int 0))]
noncomputable def z2r:List MS:=[.ret (.cmp .Eq (.loc 14) (.ite (.item (.loc 11) (.int 1)) .none (.call (.con (.ref A.f__law_made)) [.loc 12])))]
noncomputable def z2o:List MS:=.ite (.or [.cmp .NotEq (.attr (.loc 13) 35) (.list [.tup [.int 2,.int 1,.int 0]]),.cmp .NotEq (.attr (.loc 13) 61) (.int 0)]) [.ret (.bool false)] []::z2r
noncomputable def z2p:List MS:=.asg (.nm 13) (.call (.con (.ref A.c_FunctionContext)) [.loc 2,.call (.con (.ref A.c_Store)) [.attr (.loc 2) 48],.list [.tup [.int 2,.int 1,.int 0]],.int 0,.loc 9])::.tryX [.asg (.nm 14) (.meth (.loc 13) 45 [.int 0,.comp (.call (.con (.ref A.f__law_made)) [.loc 18]) [18] true .exp (.loc 4) .none []])] (.con (.ref A.c_LimitReached)) 15 [.ite (.cmp .NotEq (.attr (.loc 15) 4) (.sym 70)) [.ret (.bool false)] [],.asg (.nm 14) .none]::z2o
noncomputable def z2q:List MS:=.asg (.nm 11) (.list [.loc 9,.bool false,.attr (.loc 3) 66])::.asg (.nm 12) (.call (.con (.ref A.f__law_entered)) [.call (.con (.type "list")) [.item (.loc 4) (.int 0)],.call (.con (.type "list")) [.item (.loc 4) (.int 1)],.loc 11])::z2p
noncomputable def z2s:List MS:=.asg (.nm 5) (.tup [.sym 36,.int 4,.sym 8,.tup [.sym 34,.int 4,.int 1],.tup [.sym 31,.int 4,.int 1,.int 0],.bool false])::.asg (.nm 6) (.tup [.sym 45,.int 4,.int 0,.tup [.loc 5,.call (.con (.ref A.f__law_expr)) [.loc 1,.int 1]]])::.asg (.nm 7) (.tup [.sym 74,.tup [.sym 119,.int 4,.tup [.tup [.sym 34,.int 4,.int 3,.none,.tup [.sym 5,.int 0]]]],.loc 6,.none])::.asg (.nm 8) (.tup [.sym 36,.int 1,.sym 16,.tup [.sym 31,.int 4,.int 0,.int 0],.tup [.sym 34,.int 4,.int 1],.bool false])::.asg (.nm 9) (.bin .Mod (.call (.con (.ref A.f__law_next)) [.loc 1]) (.int 151))::.asg (.nm 10) (.comp (.call (.con (.ref A.f__law_statement)) [.loc 1,.int 2]) [17] true .range (.bin .Add (.int 1) (.bin .Mod (.call (.con (.ref A.f__law_next)) [.loc 1]) (.int 3))) .none [])::.asg (.attr (.loc 3) 66) (.tup [.sym 75,.bin .Add (.tup [.tup [.sym 76,.loc 8,.loc 7,.none]]) (.call (.con (.type "tuple")) [.loc 10]),.int 3])::z2q
noncomputable def z2t:List MS:=.asg (.nm 4) (.list [.bin .Add (.call (.con (.ref A.f__law_bits)) [.loc 1,.int 2]) (.list [.int 0,.int 0]),.call (.con (.ref A.f__law_bits)) [.loc 1,.int 4]])::.ite (.cmp .Gt (.bin .Mod (.call (.con (.ref A.f__law_next)) [.loc 1]) (.int 4)) (.int 0)) [.asg (.item (.loc 4) (.int 0)) (.comp (.bin .Mod (.loc 16) (.int 2)) [16] true .exp (.item (.loc 4) (.int 0)) .none [])] []::z2s
noncomputable def law:List MS:=.asg (.nm 1) (.call (.con (.ref A.f__law_row)) [.loc 0])::.asg (.nm 2) (.call (.con (.ref A.c_Design)) [])::.asg (.nm 3) (.meth (.loc 2) 120 [.sym 121,.bool true,.bool true,.neg (.int 1)])::.asg (.attr (.loc 3) 49) (.int 4)::.asg (.attr (.loc 3) 67) (.list [.int 4,.int 4,.int 4,.int 4])::.asg (.attr (.loc 3) 68) (.list [.tup [.sym 69,.int 4,.bool false,.sym 34,.int 1],.tup [.sym 69,.int 4,.bool false,.sym 34,.int 2]])::.asg (.attr (.loc 3) 108) (.bool true)::z2t
end M
namespace F
noncomputable def GateloomError___init__:FnT:=⟨A.f_GateloomError___init__,["self","kind","at","detail"],[.int (-1),.sym 122],0,[("self",0),("kind",1),("at",2),("detail",3)],M.GateloomError___init__⟩
noncomputable def mask:FnT:=⟨A.f_mask,["w"],[],0,[("w",0)],M.mask⟩
noncomputable def vec:FnT:=⟨A.f_vec,["w","a","b"],[.int 0],1,[("w",0),("a",1),("b",2),("full",3)],M.vec⟩
noncomputable def all_x:FnT:=⟨A.f_all_x,["w"],[],1,[("w",0),("full",1)],M.all_x⟩
noncomputable def from_int:FnT:=⟨A.f_from_int,["w","n"],[],0,[("w",0),("n",1)],M.from_int⟩
noncomputable def is_known:FnT:=⟨A.f_is_known,["v"],[],0,[("v",0)],M.is_known⟩
noncomputable def to_int:FnT:=⟨A.f_to_int,["v","signed"],[],3,[("v",0),("signed",1),("w",2),("a",3),("b",4)],M.to_int⟩
noncomputable def code:FnT:=⟨A.f_code,["v","i"],[],0,[("v",0),("i",1)],M.code⟩
noncomputable def slice_vec:FnT:=⟨A.f_slice_vec,["v","lo","w"],[],7,[("v",0),("lo",1),("w",2),("first",3),("last",4),("inner",5),("shift",6),("outside",7),("a",8),("b",9)],M.slice_vec⟩
noncomputable def put_slice:FnT:=⟨A.f_put_slice,["v","lo","part"],[],7,[("v",0),("lo",1),("part",2),("first",3),("last",4),("inner",5),("skip",6),("keep",7),("a",8),("b",9)],M.put_slice⟩
noncomputable def extend:FnT:=⟨A.f_extend,["v","w","signed"],[],4,[("v",0),("w",1),("signed",2),("fill",3),("top",4),("a",5),("b",6)],M.extend⟩
noncomputable def z_to_x:FnT:=⟨A.f_z_to_x,["v"],[],0,[("v",0)],M.z_to_x⟩
noncomputable def truth:FnT:=⟨A.f_truth,["v"],[],0,[("v",0)],M.truth⟩
noncomputable def add:FnT:=⟨A.f_add,["u","v"],[],0,[("u",0),("v",1)],M.add⟩
noncomputable def sub:FnT:=⟨A.f_sub,["u","v"],[],0,[("u",0),("v",1)],M.sub⟩
noncomputable def ordered:FnT:=⟨A.f_ordered,["u","v","signed"],[],2,[("u",0),("v",1),("signed",2),("m",3),("n",4)],M.ordered⟩
noncomputable def less:FnT:=⟨A.f_less,["u","v","signed"],[],1,[("u",0),("v",1),("signed",2),("sign",3)],M.less⟩
noncomputable def one_bit:FnT:=⟨A.f_one_bit,["c"],[],0,[("c",0)],M.one_bit⟩
noncomputable def bit_not:FnT:=⟨A.f_bit_not,["v"],[],3,[("v",0),("w",1),("a",2),("b",3)],M.bit_not⟩
noncomputable def bit_and:FnT:=⟨A.f_bit_and,["u","v"],[],6,[("u",0),("v",1),("w",2),("a",3),("b",4),("c",5),("d",6),("both",7)],M.bit_and⟩
noncomputable def bit_xor:FnT:=⟨A.f_bit_xor,["u","v"],[],1,[("u",0),("v",1),("b",2)],M.bit_xor⟩
noncomputable def equal:FnT:=⟨A.f_equal,["u","v"],[],1,[("u",0),("v",1),("unknown",2)],M.equal⟩
noncomputable def not_equal:FnT:=⟨A.f_not_equal,["u","v"],[],0,[("u",0),("v",1)],M.not_equal⟩
noncomputable def matchesV:FnT:=⟨A.f_matchesV,["kind","u","v"],[],2,[("kind",0),("u",1),("v",2),("free",3),("care",4)],M.matchesV⟩
noncomputable def choose:FnT:=⟨A.f_choose,["c","t","f"],[],4,[("c",0),("t",1),("f",2),("found",3),("w",4),("same",5),("unknown",6)],M.choose⟩
noncomputable def arithmetic:FnT:=⟨A.f_arithmetic,["op","u","v","signed"],[],0,[("op",0),("u",1),("v",2),("signed",3)],M.arithmetic⟩
noncomputable def comparison:FnT:=⟨A.f_comparison,["op","u","v","signed"],[],0,[("op",0),("u",1),("v",2),("signed",3)],M.comparison⟩
noncomputable def bitwise:FnT:=⟨A.f_bitwise,["op","u","v"],[],0,[("op",0),("u",1),("v",2)],M.bitwise⟩
noncomputable def binary:FnT:=⟨A.f_binary,["op","u","v","signed"],[],1,[("op",0),("u",1),("v",2),("signed",3),("value",4)],M.binary⟩
noncomputable def whole_of:FnT:=⟨A.f_whole_of,["e","signed","ctx"],[],0,[("e",0),("signed",1),("ctx",2)],M.whole_of⟩
noncomputable def conditional:FnT:=⟨A.f_conditional,["e","ctx"],[],2,[("e",0),("ctx",1),("condition",2),("known",3)],M.conditional⟩
noncomputable def evaluate:FnT:=⟨A.f_evaluate,["e","ctx"],[],3,[("e",0),("ctx",1),("tag",2)],M.evaluate⟩
noncomputable def locate:FnT:=⟨A.f_locate,["where","ctx"],[],1,[("where",0),("ctx",1),("index",2)],M.locate⟩
noncomputable def holder_width:FnT:=⟨A.f_holder_width,["part","ctx"],[],0,[("part",0),("ctx",1)],M.holder_width⟩
noncomputable def resolve_target:FnT:=⟨A.f_resolve_target,["lv","ctx"],[],11,[("lv",0),("ctx",1),("rows",2),("take",3),("part",4),("kind",5),("w",6),("ref",7),("word",8),("where",9),("place",10),("index",11),("lo",12)],M.resolve_target⟩
noncomputable def store_rows:FnT:=⟨A.f_store_rows,["rows","value","ctx"],[],8,[("rows",0),("value",1),("ctx",2),("changed",3),("kind",4),("ref",5),("place",6),("lo",7),("w",8),("take",9),("piece",10)],M.store_rows⟩
noncomputable def Store___init__:FnT:=⟨A.f_Store___init__,["self","signals"],[],0,[("self",0),("signals",1)],M.Store___init__⟩
noncomputable def Store_get:FnT:=⟨A.f_Store_get,["self","key"],[],2,[("self",0),("key",1),("value",2),("signal",3)],M.Store_get⟩
noncomputable def Store_set_bits:FnT:=⟨A.f_Store_set_bits,["self","key","place","lo","value"],[],2,[("self",0),("key",1),("place",2),("lo",3),("value",4),("old",5),("new",6)],M.Store_set_bits⟩
noncomputable def Context___init__:FnT:=⟨A.f_Context___init__,["self","store","frame","now"],[.int 0],0,[("self",0),("store",1),("frame",2),("now",3)],M.Context___init__⟩
noncomputable def FunctionContext___init__:FnT:=⟨A.f_FunctionContext___init__,["self","design","store","frame","now","fuel"],[.int 10000],0,[("self",0),("design",1),("store",2),("frame",3),("now",4),("fuel",5)],M.FunctionContext___init__⟩
noncomputable def FunctionContext_call:FnT:=⟨A.f_FunctionContext_call,["self","number","args"],[],3,[("self",0),("number",1),("args",2),("routine",3),("caller",4),("value",5)],M.FunctionContext_call⟩
noncomputable def FunctionContext_new_frame:FnT:=⟨A.f_FunctionContext_new_frame,["self","routine","args"],[],8,[("self",0),("routine",1),("args",2),("frame",3),("at",4),("direction",5),("w",6),("signed",7),("kind",8),("ref",9)],M.FunctionContext_new_frame⟩
noncomputable def FunctionContext_burn:FnT:=⟨A.f_FunctionContext_burn,["self"],[],0,[("self",0)],M.FunctionContext_burn⟩
noncomputable def FunctionContext_is_true:FnT:=⟨A.f_FunctionContext_is_true,["self","e"],[],0,[("self",0),("e",1)],M.FunctionContext_is_true⟩
noncomputable def run_block:FnT:=⟨A.f_run_block,["s","ctx"],[],2,[("s",0),("ctx",1),("inner",2),("disabled",3)],M.run_block⟩
noncomputable def run_set:FnT:=⟨A.f_run_set,["s","ctx"],[],2,[("s",0),("ctx",1),("value",2),("key",3)],M.run_set⟩
noncomputable def run_case:FnT:=⟨A.f_run_case,["s","ctx"],[],5,[("s",0),("ctx",1),("value",2),("default",3),("labels",4),("inner",5),("label",6)],M.run_case⟩
noncomputable def run_while:FnT:=⟨A.f_run_while,["condition","body","step","ctx"],[],1,[("condition",0),("body",1),("step",2),("ctx",3),("disabled",4)],M.run_while⟩
noncomputable def run_repeat:FnT:=⟨A.f_run_repeat,["s","ctx"],[],2,[("s",0),("ctx",1),("count",2),("disabled",3)],M.run_repeat⟩
noncomputable def run_for:FnT:=⟨A.f_run_for,["s","ctx"],[],0,[("s",0),("ctx",1)],M.run_for⟩
noncomputable def run_statement:FnT:=⟨A.f_run_statement,["s","ctx"],[],1,[("s",0),("ctx",1),("tag",2)],M.run_statement⟩
noncomputable def Routine___init__:FnT:=⟨A.f_Routine___init__,["self","number","path","is_function","automatic","at"],[],0,[("self",0),("number",1),("path",2),("is_function",3),("automatic",4),("at",5)],M.Routine___init__⟩
noncomputable def Design___init__:FnT:=⟨A.f_Design___init__,["self"],[],0,[("self",0)],M.Design___init__⟩
noncomputable def Design_add_routine:FnT:=⟨A.f_Design_add_routine,["self","path","is_function","automatic","at"],[],1,[("self",0),("path",1),("is_function",2),("automatic",3),("at",4),("routine",5)],M.Design_add_routine⟩
noncomputable def Design_routine:FnT:=⟨A.f_Design_routine,["self","n"],[],1,[("self",0),("n",1),("routine",2)],M.Design_routine⟩
noncomputable def xlaw_row:FnT:=⟨A.f__law_row,["script"],[],4,[("script",0),("row",1),("cell",2),("number",3),("turn",4)],M.xlaw_row⟩
noncomputable def xlaw_next:FnT:=⟨A.f__law_next,["row"],[],0,[("row",0)],M.xlaw_next⟩
noncomputable def xlaw_bits:FnT:=⟨A.f__law_bits,["row","wide"],[],4,[("row",0),("wide",1),("bits",2),("turn",3),("number",4),("step",5)],M.xlaw_bits⟩
noncomputable def xlaw_made:FnT:=⟨A.f__law_made,["bits"],[],3,[("bits",0),("low",1),("high",2),("spot",3)],M.xlaw_made⟩
noncomputable def xlaw_expr:FnT:=⟨A.f__law_expr,["row","deep"],[],3,[("row",0),("deep",1),("kind",2),("one",3),("two",4)],M.xlaw_expr⟩
noncomputable def xlaw_test:FnT:=⟨A.f__law_test,["row"],[],1,[("row",0),("one",1)],M.xlaw_test⟩
noncomputable def xlaw_set:FnT:=⟨A.f__law_set,["row","deep"],[],3,[("row",0),("deep",1),("hole",2),("low",3),("part",4)],M.xlaw_set⟩
noncomputable def xlaw_statement:FnT:=⟨A.f__law_statement,["row","deep"],[],4,[("row",0),("deep",1),("kind",2),("one",3),("labels",4),("rows",5)],M.xlaw_statement⟩
noncomputable def xlaw_codes:FnT:=⟨A.f__law_codes,["e"],[],1,[("e",0)],M.xlaw_codes⟩
noncomputable def xlaw_figure:FnT:=⟨A.f__law_figure,["bits"],[],2,[("bits",0),("total",1),("spot",2)],M.xlaw_figure⟩
noncomputable def xlaw_same:FnT:=⟨A.f__law_same,["one","two"],[],2,[("one",0),("two",1),("bit",2),("other",3)],M.xlaw_same⟩
noncomputable def xlaw_value:FnT:=⟨A.f__law_value,["e","frame"],[],12,[("e",0),("frame",1),("test",2),("one",3),("two",4),("same",5),("first",6),("second",7),("total",8)],M.xlaw_value⟩
noncomputable def xlaw_burnt:FnT:=⟨A.f__law_burnt,["state"],[],0,[("state",0)],M.xlaw_burnt⟩
noncomputable def xlaw_meets:FnT:=⟨A.f__law_meets,["kind","one","two"],[],3,[("kind",0),("one",1),("two",2),("free",3),("bit",4),("other",5)],M.xlaw_meets⟩
noncomputable def xlaw_loop:FnT:=⟨A.f__law_loop,["test","body","step","frame","state"],[],2,[("test",0),("body",1),("step",2),("frame",3),("state",4),("turn",5),("gone",6)],M.xlaw_loop⟩
noncomputable def xlaw_run:FnT:=⟨A.f__law_run,["s","frame","state"],[],17,[("s",0),("frame",1),("state",2),("kind",3),("wide",4),("hole",5),("word",6),("where",7),("bits",8),("spot",9),("inner",10),("gone",11),("value",12),("chosen",13),("labels",14),("count",15),("turn",16)],M.xlaw_run⟩
noncomputable def xlaw_called:FnT:=⟨A.f__law_called,["args","frame","state"],[],0,[("args",0),("frame",1),("state",2)],M.xlaw_called⟩
noncomputable def xlaw_entered:FnT:=⟨A.f__law_entered,["one","two","state"],[],1,[("one",0),("two",1),("state",2),("inner",3)],M.xlaw_entered⟩
noncomputable def law:FnT:=⟨A.f_law,["script"],[],18,[("script",0),("row",1),("design",2),("routine",3),("args",4),("minus",5),("again",6),("top",7),("above",8),("fuel",9),("rest",10),("state",11),("due",12),("ctx",13),("told",14),("error",15)],M.law⟩
end F
noncomputable def fns:List FnT:=[F.GateloomError___init__,F.mask,F.vec,F.all_x,F.from_int,F.is_known,F.to_int,F.code,F.slice_vec,F.put_slice,F.extend,F.z_to_x,F.truth,F.add,F.sub,F.ordered,F.less,F.one_bit,F.bit_not,F.bit_and,F.bit_xor,F.equal,F.not_equal,F.matchesV,F.choose,F.arithmetic,F.comparison,F.bitwise,F.binary,F.whole_of,F.conditional,F.evaluate,F.locate,F.holder_width,F.resolve_target,F.store_rows,F.Store___init__,F.Store_get,F.Store_set_bits,F.Context___init__,F.FunctionContext___init__,F.FunctionContext_call,F.FunctionContext_new_frame,F.FunctionContext_burn,F.FunctionContext_is_true,F.run_block,F.run_set,F.run_case,F.run_while,F.run_repeat,F.run_for,F.run_statement,F.Routine___init__,F.Design___init__,F.Design_add_routine,F.Design_routine,F.xlaw_row,F.xlaw_next,F.xlaw_bits,F.xlaw_made,F.xlaw_expr,F.xlaw_test,F.xlaw_set,F.xlaw_statement,F.xlaw_codes,F.xlaw_figure,F.xlaw_same,F.xlaw_value,F.xlaw_burnt,F.xlaw_meets,F.xlaw_loop,F.xlaw_run,F.xlaw_called,F.xlaw_entered,F.law]
noncomputable def w8c:List (Addr×Addr):=[(A.c_Store,A.f_Store___init__),(A.c_FunctionContext,A.f_FunctionContext___init__),(A.c_Routine,A.f_Routine___init__),(A.c_Design,A.f_Design___init__)]
noncomputable def v4p (K:Frag):Bool:=cxB Tb K && fns.all (fun x=>x.ok K Tb.sym) && w8c.all (fun x=>w8d K x.1 x.2) && v1i K A.c_LimitReached A.f_GateloomError___init__
structure CX extends Cx Tb where
 hF:v4p K=true
 hX:ExcSh K A.c_LimitReached
theorem CX.fnOk (c:CX) {x:FnT} (i:Nat) (hi:fns[i]?=some x):x.ok c.K Tb.sym=true:=by
 have h:=c.hF
 simp only [v4p,Bool.and_eq_true]at h
 exact List.all_eq_true.mp h.1.1.2 x (List.mem_of_getElem? hi)
theorem CX.instOk (c:CX) {x:Addr×Addr} (i:Nat) (hi:w8c[i]?=some x):w8d c.K x.1 x.2=true:=by
 have h:=c.hF
 simp only [v4p,Bool.and_eq_true]at h
 exact List.all_eq_true.mp h.1.2 x (List.mem_of_getElem? hi)
theorem CX.excOk (c:CX):v1i c.K A.c_LimitReached A.f_GateloomError___init__=true:=(Bool.and_eq_true_iff.mp c.hF).2
theorem u0f {c:CX} {r:Nat} (hr:1≤r) (x:FnT) (i:Nat) (hi:fns[i]?=some x) {args:List MV} (h:(Nat.ble args.length x.ps.length && Nat.ble x.ps.length (args.length+x.ds.length))=true) {σ:Hp} {Q E:MV→Hp→Prop}
  (q:swps Tb (CSf c.toCx) (r- 1) x.ms ((args++x.ds.drop (args.length+x.ds.length- x.ps.length)).map some++List.replicate x.n none) σ (retQ Q) (fun x _ σ1=>E x σ1)):u0s c.toCx r (.ref x.f) args σ Q E:=by
 obtain⟨r,rfl⟩:∃k,r=k+1:=⟨r- 1,by omega⟩
 obtain⟨h1,h2⟩:=Bool.and_eq_true_iff.mp h
 exact x.code (c.fnOk i hi) (Nat.le_of_ble_eq_true h1) (Nat.le_of_ble_eq_true h2) q
theorem v8c {c:CX} {r:Nat} (hr:1≤r) {C fI:Addr} (i:Nat) (hi:w8c[i]?=some (C,fI)) {args:List MV} {σ:Hp} {Q E:MV→Hp→Prop}
  (q:∀a,σ a=none→u0s c.toCx (r- 1) (.ref fI) (.ref a::args) (σ.put a (.inst C [])) (fun v σ1=>v=.none∧Q (.ref a) σ1) E):u0p c.toCx r (.ref C) args σ Q E:=by
 obtain⟨r,rfl⟩:∃k,r=k+1:=⟨r- 1,by omega⟩
 have h:=c.instOk i hi
 simp only [w8d,Bool.and_eq_true,beq_iff_eq]at h
 exact(w0r (cx:=c.toCx) h.1.1 h.1.2 h.2 q).call
theorem x7z {c:CX} {r:Nat} (hr:1≤r) {args:List MV} (hl:args.length≤1000) {σ:Hp} {Q E:MV→Hp→Prop}
  (q:∀a,σ a=none→u0s c.toCx (r- 1) (.ref A.f_GateloomError___init__) (.ref a::args) (σ.put a (.exc A.c_LimitReached [])) (fun v σ1=>v=.none∧Q (.ref a) σ1) E):u0p c.toCx r (.ref A.c_LimitReached) args σ Q E:=by
 obtain⟨r,rfl⟩:∃k,r=k+1:=⟨r- 1,by omega⟩
 exact(w5f (cx:=c.toCx) c.hX c.excOk hl q).call
end Mine
end
section
open PySem PySem.W PyProof.Rows
set_option maxRecDepth 100000
namespace Mine
noncomputable abbrev Qn (c:CX) (r:Nat) (m:List MS) (l:List (Option MV)) (σ:Hp) (Q E:MV→Hp→Prop):Prop:=swps Tb (CSf c.toCx) (r- 1) m l σ (retQ Q) (fun x _ σ1=>E x σ1)
variable {c:CX} {r:Nat} (hr:1≤r) {a0 a1 a2 a3 a4 a5 a6 a7 a8 a9:MV} {args:List MV} {σ:Hp} {Q E:MV→Hp→Prop} {t:Tk Q E}
include hr
theorem u2x (q:Qn c r M.GateloomError___init__ [some a0,some a1,some (.int (-1)),some (.sym 122)] σ Q E):u0s c.toCx r (.ref A.f_GateloomError___init__) [a0,a1] σ Q E:=u0f hr F.GateloomError___init__ 0 rfl rfl q
theorem w9m (q:Qn c r M.mask [some a0] σ Q E):CS1 c.toCx r (.ref A.f_mask) [a0] σ Q E t:=(u0f hr F.mask 1 rfl rfl q).call
theorem x3o (q:Qn c r M.vec [some a0,some a1,some a2,none] σ Q E):CS1 c.toCx r (.ref A.f_vec) [a0,a1,a2] σ Q E t:=(u0f hr F.vec 2 rfl rfl q).call
theorem w6f (q:Qn c r M.all_x [some a0,none] σ Q E):CS1 c.toCx r (.ref A.f_all_x) [a0] σ Q E t:=(u0f hr F.all_x 3 rfl rfl q).call
theorem v5c (q:Qn c r M.from_int [some a0,some a1] σ Q E):CS1 c.toCx r (.ref A.f_from_int) [a0,a1] σ Q E t:=(u0f hr F.from_int 4 rfl rfl q).call
theorem v5b (q:Qn c r M.is_known [some a0] σ Q E):CS1 c.toCx r (.ref A.f_is_known) [a0] σ Q E t:=(u0f hr F.is_known 5 rfl rfl q).call
theorem w1d (q:Qn c r M.to_int [some a0,some a1,none,none,none] σ Q E):CS1 c.toCx r (.ref A.f_to_int) [a0,a1] σ Q E t:=(u0f hr F.to_int 6 rfl rfl q).call
theorem v2q (q:Qn c r M.slice_vec [some a0,some a1,some a2,none,none,none,none,none,none,none] σ Q E):CS1 c.toCx r (.ref A.f_slice_vec) [a0,a1,a2] σ Q E t:=(u0f hr F.slice_vec 8 rfl rfl q).call
theorem v2t (q:Qn c r M.put_slice [some a0,some a1,some a2,none,none,none,none,none,none,none] σ Q E):CS1 c.toCx r (.ref A.f_put_slice) [a0,a1,a2] σ Q E t:=(u0f hr F.put_slice 9 rfl rfl q).call
theorem w1f (q:Qn c r M.extend [some a0,some a1,some a2,none,none,none,none] σ Q E):CS1 c.toCx r (.ref A.f_extend) [a0,a1,a2] σ Q E t:=(u0f hr F.extend 10 rfl rfl q).call
theorem w1c (q:Qn c r M.z_to_x [some a0] σ Q E):CS1 c.toCx r (.ref A.f_z_to_x) [a0] σ Q E t:=(u0f hr F.z_to_x 11 rfl rfl q).call
theorem w6d (q:Qn c r M.truth [some a0] σ Q E):CS1 c.toCx r (.ref A.f_truth) [a0] σ Q E t:=(u0f hr F.truth 12 rfl rfl q).call
theorem x3s (q:Qn c r M.add [some a0,some a1] σ Q E):CS1 c.toCx r (.ref A.f_add) [a0,a1] σ Q E t:=(u0f hr F.add 13 rfl rfl q).call
theorem x3p (q:Qn c r M.sub [some a0,some a1] σ Q E):CS1 c.toCx r (.ref A.f_sub) [a0,a1] σ Q E t:=(u0f hr F.sub 14 rfl rfl q).call
theorem v7b (q:Qn c r M.ordered [some a0,some a1,some a2,none,none] σ Q E):CS1 c.toCx r (.ref A.f_ordered) [a0,a1,a2] σ Q E t:=(u0f hr F.ordered 15 rfl rfl q).call
theorem w9n (q:Qn c r M.less [some a0,some a1,some a2,none] σ Q E):CS1 c.toCx r (.ref A.f_less) [a0,a1,a2] σ Q E t:=(u0f hr F.less 16 rfl rfl q).call
theorem v7c (q:Qn c r M.one_bit [some a0] σ Q E):CS1 c.toCx r (.ref A.f_one_bit) [a0] σ Q E t:=(u0f hr F.one_bit 17 rfl rfl q).call
theorem v7e (q:Qn c r M.bit_not [some a0,none,none,none] σ Q E):CS1 c.toCx r (.ref A.f_bit_not) [a0] σ Q E t:=(u0f hr F.bit_not 18 rfl rfl q).call
theorem v7f (q:Qn c r M.bit_and [some a0,some a1,none,none,none,none,none,none] σ Q E):CS1 c.toCx r (.ref A.f_bit_and) [a0,a1] σ Q E t:=(u0f hr F.bit_and 19 rfl rfl q).call
theorem x3r (q:Qn c r M.bit_xor [some a0,some a1,none] σ Q E):CS1 c.toCx r (.ref A.f_bit_xor) [a0,a1] σ Q E t:=(u0f hr F.bit_xor 20 rfl rfl q).call
theorem w6e (q:Qn c r M.equal [some a0,some a1,none] σ Q E):CS1 c.toCx r (.ref A.f_equal) [a0,a1] σ Q E t:=(u0f hr F.equal 21 rfl rfl q).call
theorem v2u (q:Qn c r M.not_equal [some a0,some a1] σ Q E):CS1 c.toCx r (.ref A.f_not_equal) [a0,a1] σ Q E t:=(u0f hr F.not_equal 22 rfl rfl q).call
theorem v5a (q:Qn c r M.matchesV [some a0,some a1,some a2,none,none] σ Q E):CS1 c.toCx r (.ref A.f_matchesV) [a0,a1,a2] σ Q E t:=(u0f hr F.matchesV 23 rfl rfl q).call
theorem w1g (q:Qn c r M.choose [some a0,some a1,some a2,none,none,none,none] σ Q E):CS1 c.toCx r (.ref A.f_choose) [a0,a1,a2] σ Q E t:=(u0f hr F.choose 24 rfl rfl q).call
theorem u3p (q:Qn c r M.arithmetic [some a0,some a1,some a2,some a3] σ Q E):CS1 c.toCx r (.ref A.f_arithmetic) [a0,a1,a2,a3] σ Q E t:=(u0f hr F.arithmetic 25 rfl rfl q).call
theorem u5u (q:Qn c r M.comparison [some a0,some a1,some a2,some a3] σ Q E):CS1 c.toCx r (.ref A.f_comparison) [a0,a1,a2,a3] σ Q E t:=(u0f hr F.comparison 26 rfl rfl q).call
theorem v7d (q:Qn c r M.bitwise [some a0,some a1,some a2] σ Q E):CS1 c.toCx r (.ref A.f_bitwise) [a0,a1,a2] σ Q E t:=(u0f hr F.bitwise 27 rfl rfl q).call
theorem v1k (q:Qn c r M.binary [some a0,some a1,some a2,some a3,none] σ Q E):CS1 c.toCx r (.ref A.f_binary) [a0,a1,a2,a3] σ Q E t:=(u0f hr F.binary 28 rfl rfl q).call
theorem u9n (q:Qn c r M.conditional [some a0,some a1,none,none] σ Q E):CS1 c.toCx r (.ref A.f_conditional) [a0,a1] σ Q E t:=(u0f hr F.conditional 30 rfl rfl q).call
theorem u1q (q:Qn c r M.evaluate [some a0,some a1,none,none,none] σ Q E):CS1 c.toCx r (.ref A.f_evaluate) [a0,a1] σ Q E t:=(u0f hr F.evaluate 31 rfl rfl q).call
theorem w1e (q:Qn c r M.locate [some a0,some a1,none] σ Q E):CS1 c.toCx r (.ref A.f_locate) [a0,a1] σ Q E t:=(u0f hr F.locate 32 rfl rfl q).call
theorem u8b (q:Qn c r M.holder_width [some a0,some a1] σ Q E):CS1 c.toCx r (.ref A.f_holder_width) [a0,a1] σ Q E t:=(u0f hr F.holder_width 33 rfl rfl q).call
theorem u7a (q:Qn c r M.resolve_target [some a0,some a1,none,none,none,none,none,none,none,none,none,none,none] σ Q E):CS1 c.toCx r (.ref A.f_resolve_target) [a0,a1] σ Q E t:=(u0f hr F.resolve_target 34 rfl rfl q).call
theorem u5t (q:Qn c r M.store_rows [some a0,some a1,some a2,none,none,none,none,none,none,none,none] σ Q E):CS1 c.toCx r (.ref A.f_store_rows) [a0,a1,a2] σ Q E t:=(u0f hr F.store_rows 35 rfl rfl q).call
theorem u6y (q:Qn c r M.Store___init__ [some a0,some a1] σ Q E):u0s c.toCx r (.ref A.f_Store___init__) [a0,a1] σ Q E:=u0f hr F.Store___init__ 36 rfl rfl q
theorem u5m (q:Qn c r M.Context___init__ [some a0,some a1,some a2,some a3] σ Q E):CS1 c.toCx r (.ref A.f_Context___init__) [a0,a1,a2,a3] σ Q E t:=(u0f hr F.Context___init__ 39 rfl rfl q).call
theorem u7t (q:Qn c r M.FunctionContext___init__ [some a0,some a1,some a2,some a3,some a4,some (.int 10000)] σ Q E):u0s c.toCx r (.ref A.f_FunctionContext___init__) [a0,a1,a2,a3,a4] σ Q E:=u0f hr F.FunctionContext___init__ 40 rfl rfl q
theorem u2y (q:Qn c r M.FunctionContext___init__ [some a0,some a1,some a2,some a3,some a4,some a5] σ Q E):u0s c.toCx r (.ref A.f_FunctionContext___init__) [a0,a1,a2,a3,a4,a5] σ Q E:=u0f hr F.FunctionContext___init__ 40 rfl rfl q
theorem u4b (q:Qn c r M.FunctionContext_call [some a0,some a1,some a2,none,none,none] σ Q E):CS1 c.toCx r (.ref A.f_FunctionContext_call) [a0,a1,a2] σ Q E t:=(u0f hr F.FunctionContext_call 41 rfl rfl q).call
theorem u2p (q:Qn c r M.FunctionContext_new_frame [some a0,some a1,some a2,none,none,none,none,none,none,none,none] σ Q E):CS1 c.toCx r (.ref A.f_FunctionContext_new_frame) [a0,a1,a2] σ Q E t:=(u0f hr F.FunctionContext_new_frame 42 rfl rfl q).call
theorem u4c (q:Qn c r M.FunctionContext_burn [some a0] σ Q E):CS1 c.toCx r (.ref A.f_FunctionContext_burn) [a0] σ Q E t:=(u0f hr F.FunctionContext_burn 43 rfl rfl q).call
theorem u3d (q:Qn c r M.FunctionContext_is_true [some a0,some a1] σ Q E):CS1 c.toCx r (.ref A.f_FunctionContext_is_true) [a0,a1] σ Q E t:=(u0f hr F.FunctionContext_is_true 44 rfl rfl q).call
theorem v2s (q:Qn c r M.run_block [some a0,some a1,none,none] σ Q E):CS1 c.toCx r (.ref A.f_run_block) [a0,a1] σ Q E t:=(u0f hr F.run_block 45 rfl rfl q).call
theorem v6z (q:Qn c r M.run_set [some a0,some a1,none,none] σ Q E):CS1 c.toCx r (.ref A.f_run_set) [a0,a1] σ Q E t:=(u0f hr F.run_set 46 rfl rfl q).call
theorem v4z (q:Qn c r M.run_case [some a0,some a1,none,none,none,none,none] σ Q E):CS1 c.toCx r (.ref A.f_run_case) [a0,a1] σ Q E t:=(u0f hr F.run_case 47 rfl rfl q).call
theorem v2r (q:Qn c r M.run_while [some a0,some a1,some a2,some a3,none] σ Q E):CS1 c.toCx r (.ref A.f_run_while) [a0,a1,a2,a3] σ Q E t:=(u0f hr F.run_while 48 rfl rfl q).call
theorem v0s (q:Qn c r M.run_repeat [some a0,some a1,none,none] σ Q E):CS1 c.toCx r (.ref A.f_run_repeat) [a0,a1] σ Q E t:=(u0f hr F.run_repeat 49 rfl rfl q).call
theorem v7a (q:Qn c r M.run_for [some a0,some a1] σ Q E):CS1 c.toCx r (.ref A.f_run_for) [a0,a1] σ Q E t:=(u0f hr F.run_for 50 rfl rfl q).call
theorem u4a (q:Qn c r M.run_statement [some a0,some a1,none] σ Q E):CS1 c.toCx r (.ref A.f_run_statement) [a0,a1] σ Q E t:=(u0f hr F.run_statement 51 rfl rfl q).call
theorem u5l (q:Qn c r M.Routine___init__ [some a0,some a1,some a2,some a3,some a4,some a5] σ Q E):u0s c.toCx r (.ref A.f_Routine___init__) [a0,a1,a2,a3,a4,a5] σ Q E:=u0f hr F.Routine___init__ 52 rfl rfl q
theorem u6i (q:Qn c r M.Design___init__ [some a0] σ Q E):u0s c.toCx r (.ref A.f_Design___init__) [a0] σ Q E:=u0f hr F.Design___init__ 53 rfl rfl q
theorem u4j (q:Qn c r M.Design_add_routine [some a0,some a1,some a2,some a3,some a4,none] σ Q E):CS1 c.toCx r (.ref A.f_Design_add_routine) [a0,a1,a2,a3,a4] σ Q E t:=(u0f hr F.Design_add_routine 54 rfl rfl q).call
theorem u7c (q:Qn c r M.Design_routine [some a0,some a1,none] σ Q E):CS1 c.toCx r (.ref A.f_Design_routine) [a0,a1] σ Q E t:=(u0f hr F.Design_routine 55 rfl rfl q).call
theorem v5e (q:Qn c r M.xlaw_row [some a0,none,none,none,none] σ Q E):CS1 c.toCx r (.ref A.f__law_row) [a0] σ Q E t:=(u0f hr F.xlaw_row 56 rfl rfl q).call
theorem v2x (q:Qn c r M.xlaw_next [some a0] σ Q E):CS1 c.toCx r (.ref A.f__law_next) [a0] σ Q E t:=(u0f hr F.xlaw_next 57 rfl rfl q).call
theorem v3a (q:Qn c r M.xlaw_bits [some a0,some a1,none,none,none,none] σ Q E):CS1 c.toCx r (.ref A.f__law_bits) [a0,a1] σ Q E t:=(u0f hr F.xlaw_bits 58 rfl rfl q).call
theorem v2y (q:Qn c r M.xlaw_made [some a0,none,none,none] σ Q E):CS1 c.toCx r (.ref A.f__law_made) [a0] σ Q E t:=(u0f hr F.xlaw_made 59 rfl rfl q).call
theorem u7b (q:Qn c r M.xlaw_expr [some a0,some a1,none,none,none] σ Q E):CS1 c.toCx r (.ref A.f__law_expr) [a0,a1] σ Q E t:=(u0f hr F.xlaw_expr 60 rfl rfl q).call
theorem v2v (q:Qn c r M.xlaw_test [some a0,none] σ Q E):CS1 c.toCx r (.ref A.f__law_test) [a0] σ Q E t:=(u0f hr F.xlaw_test 61 rfl rfl q).call
theorem v5d (q:Qn c r M.xlaw_set [some a0,some a1,none,none,none] σ Q E):CS1 c.toCx r (.ref A.f__law_set) [a0,a1] σ Q E t:=(u0f hr F.xlaw_set 62 rfl rfl q).call
theorem u3k (q:Qn c r M.xlaw_statement [some a0,some a1,none,none,none,none] σ Q E):CS1 c.toCx r (.ref A.f__law_statement) [a0,a1] σ Q E t:=(u0f hr F.xlaw_statement 63 rfl rfl q).call
theorem v0u (q:Qn c r M.xlaw_codes [some a0,none] σ Q E):CS1 c.toCx r (.ref A.f__law_codes) [a0] σ Q E t:=(u0f hr F.xlaw_codes 64 rfl rfl q).call
theorem u9o (q:Qn c r M.xlaw_figure [some a0,none,none] σ Q E):CS1 c.toCx r (.ref A.f__law_figure) [a0] σ Q E t:=(u0f hr F.xlaw_figure 65 rfl rfl q).call
theorem v2w (q:Qn c r M.xlaw_same [some a0,some a1,none,none] σ Q E):CS1 c.toCx r (.ref A.f__law_same) [a0,a1] σ Q E t:=(u0f hr F.xlaw_same 66 rfl rfl q).call
theorem u1v (q:Qn c r M.xlaw_value [some a0,some a1,none,none,none,none,none,none,none,none,none,none,none,none] σ Q E):CS1 c.toCx r (.ref A.f__law_value) [a0,a1] σ Q E t:=(u0f hr F.xlaw_value 67 rfl rfl q).call
theorem v0v (q:Qn c r M.xlaw_burnt [some a0] σ Q E):CS1 c.toCx r (.ref A.f__law_burnt) [a0] σ Q E t:=(u0f hr F.xlaw_burnt 68 rfl rfl q).call
theorem v0t (q:Qn c r M.xlaw_meets [some a0,some a1,some a2,none,none,none] σ Q E):CS1 c.toCx r (.ref A.f__law_meets) [a0,a1,a2] σ Q E t:=(u0f hr F.xlaw_meets 69 rfl rfl q).call
theorem v2z (q:Qn c r M.xlaw_loop [some a0,some a1,some a2,some a3,some a4,none,none] σ Q E):CS1 c.toCx r (.ref A.f__law_loop) [a0,a1,a2,a3,a4] σ Q E t:=(u0f hr F.xlaw_loop 70 rfl rfl q).call
theorem u7u (q:Qn c r M.xlaw_run [some a0,some a1,some a2,none,none,none,none,none,none,none,none,none,none,none,none,none,none,none,none,none] σ Q E):CS1 c.toCx r (.ref A.f__law_run) [a0,a1,a2] σ Q E t:=(u0f hr F.xlaw_run 71 rfl rfl q).call
theorem u9p (q:Qn c r M.xlaw_called [some a0,some a1,some a2] σ Q E):CS1 c.toCx r (.ref A.f__law_called) [a0,a1,a2] σ Q E t:=(u0f hr F.xlaw_called 72 rfl rfl q).call
theorem u8c (q:Qn c r M.xlaw_entered [some a0,some a1,some a2,none] σ Q E):CS1 c.toCx r (.ref A.f__law_entered) [a0,a1,a2] σ Q E t:=(u0f hr F.xlaw_entered 73 rfl rfl q).call
theorem x3q (q:Qn c r M.law [some a0,none,none,none,none,none,none,none,none,none,none,none,none,none,none,none,none,none,none] σ Q E):CS1 c.toCx r (.ref A.f_law) [a0] σ Q E t:=(u0f hr F.law 74 rfl rfl q).call
theorem w3x (q:∀a,σ a=none→u0s c.toCx (r- 1) (.ref A.f_Store___init__) (.ref a::args) (σ.put a (.inst A.c_Store [])) (fun v σ1=>v=.none∧Q (.ref a) σ1) E):CS1 c.toCx r (.ref A.c_Store) args σ Q E t:=v8c hr 0 rfl q
theorem u5z (q:∀a,σ a=none→u0s c.toCx (r- 1) (.ref A.f_FunctionContext___init__) (.ref a::args) (σ.put a (.inst A.c_FunctionContext [])) (fun v σ1=>v=.none∧Q (.ref a) σ1) E):CS1 c.toCx r (.ref A.c_FunctionContext) args σ Q E t:=v8c hr 1 rfl q
theorem v6k (q:∀a,σ a=none→u0s c.toCx (r- 1) (.ref A.f_Routine___init__) (.ref a::args) (σ.put a (.inst A.c_Routine [])) (fun v σ1=>v=.none∧Q (.ref a) σ1) E):CS1 c.toCx r (.ref A.c_Routine) args σ Q E t:=v8c hr 2 rfl q
theorem w0n (q:∀a,σ a=none→u0s c.toCx (r- 1) (.ref A.f_Design___init__) (.ref a::args) (σ.put a (.inst A.c_Design [])) (fun v σ1=>v=.none∧Q (.ref a) σ1) E):CS1 c.toCx r (.ref A.c_Design) args σ Q E t:=v8c hr 3 rfl q
theorem u7w (hl:args.length≤1000) (q:∀a,σ a=none→u0s c.toCx (r- 1) (.ref A.f_GateloomError___init__) (.ref a::args) (σ.put a (.exc A.c_LimitReached [])) (fun v σ1=>v=.none∧Q (.ref a) σ1) E):CS1 c.toCx r (.ref A.c_LimitReached) args σ Q E t:=x7z hr hl q
end Mine
end
section
open PySem PySem.W PyProof.Rows
namespace Mine
theorem bAnd (m n:Nat):Builtin.bitAnd (m:Int) (n:Int)=((m &&& n:Nat):Int):=by
 unfold Builtin.bitAnd
 rw [decide_eq_true (Int.natCast_nonneg m),decide_eq_true (Int.natCast_nonneg n)];simp
theorem bOr (m n:Nat):Builtin.bitOr (m:Int) (n:Int)=((m|||n:Nat):Int):=by
 rw [bitOr_and,bAnd,←Int.natCast_add,←nat_or_add_and m n,Int.natCast_add,Int.add_sub_cancel]
theorem w0l (m n:Nat):(m|||n)=(m^^^n)+(m &&& n):=by
 have k1:∀p q:Bool,((p^^q)||(p && q))=(p||q):=by decide
 have k2:∀p q:Bool,((p^^q) && (p && q))=false:=by decide
 have h:=nat_or_add_and (m^^^n) (m &&& n)
 rw [show(m^^^n)|||(m &&& n)=m|||n from Nat.eq_of_testBit_eq fun i=>by rw [Nat.testBit_or,Nat.testBit_xor,Nat.testBit_and,Nat.testBit_or];exact k1 _ _,
  show(m^^^n) &&& (m &&& n)=0 from Nat.eq_of_testBit_eq fun i=>by rw [Nat.testBit_and,Nat.testBit_xor,Nat.testBit_and,Nat.zero_testBit];exact k2 _ _]at h
 exact h
theorem bXor (m n:Nat):Builtin.bitXor (m:Int) (n:Int)=((m^^^n:Nat):Int):=by
 unfold Builtin.bitXor
 rw [bOr,bAnd,w0l m n,Int.natCast_add,Int.add_sub_cancel]
theorem w9s (x:Int) (w:Nat):Builtin.bitAnd x ((2^w- 1:Nat):Int)=x % (2^w:Nat):=by
 have hp:0<2^w:=Nat.two_pow_pos w
 cases x with
 |ofNat n=>
  show Builtin.bitAnd (n:Int) _=_
  rw [bAnd,Nat.and_two_pow_sub_one_eq_mod]
  rfl
 |negSucc n=>
  have e:(Builtin.bitNot (Int.negSucc n)).toNat=n:=by
   show(-(Int.negSucc n)- 1).toNat=n
   rw [Int.neg_negSucc]
   show((n:Int)+1- 1).toNat=n
   rw [Int.add_sub_cancel,Int.toNat_natCast]
  rw [bitAnd_np (Int.not_le.mpr (Int.negSucc_lt_zero n)) (Int.natCast_nonneg _),e,Int.toNat_natCast,Nat.and_comm,Nat.and_two_pow_sub_one_eq_mod,Int.negSucc_emod _ (Int.natCast_pos.mpr hp),Int.natCast_sub hp]
  rfl
noncomputable def lo2:List Nat→Nat
 |[]=>0
 |c::r=>c % 2+2*lo2 r
noncomputable def hi2:List Nat→Nat
 |[]=>0
 |c::r=>c / 2+2*hi2 r
noncomputable def V (cs:List Nat):MV:=.tup [.int cs.length,.int (lo2 cs),.int (hi2 cs)]
noncomputable def Ok (cs:List Nat):Prop:=∀c ∈ cs,c<4
noncomputable def at0 (cs:List Nat) (i:Nat):Nat:=(cs[i]?).getD 0
theorem u1a {cs:List Nat} (h:Ok cs) (i:Nat):at0 cs i<4:=by
 unfold at0
 cases q:cs[i]? with
 |none=>decide
 |some c=>exact h c (List.mem_of_getElem? q)
theorem w6p (i:Nat):at0 [] i=0:=by simp [at0]
theorem u5h (c:Nat) (r:List Nat):at0 (c::r) 0=c:=by simp [at0]
theorem u5i (c:Nat) (r:List Nat) (i:Nat):at0 (c::r) (i+1)=at0 r i:=by simp [at0]
theorem u2d {cs:List Nat} {i:Nat} (h:cs.length≤i):at0 cs i=0:=by unfold at0;rw [List.getElem?_eq_none h];rfl
theorem Ok.tail {c:Nat} {r:List Nat} (h:Ok (c::r)):Ok r:=fun x hx=>h x (.tail _ hx)
theorem u6r {c:Nat} {r:List Nat}:lo2 (c::r)=c % 2+2*lo2 r:=rfl
theorem v2c {c:Nat} {r:List Nat}:hi2 (c::r)=c / 2+2*hi2 r:=rfl
theorem u1i (cs:List Nat) (i:Nat):(lo2 cs).testBit i=decide (at0 cs i % 2=1):=by
 induction cs generalizing i with
 |nil=>rw [w6p];exact Nat.zero_testBit i
 |cons c r ih=>cases i with
  |zero=>rw [Nat.testBit_zero,u5h,u6r,Nat.add_mul_mod_self_left,Nat.mod_mod]
  |succ i=>rw [Nat.testBit_add_one,u5i,←ih i,u6r,Nat.add_mul_div_left _ _ Nat.two_pos,Nat.div_eq_of_lt (Nat.mod_lt _ Nat.two_pos),Nat.zero_add]
theorem w5b:∀c,c<4→decide (c / 2 % 2=1)=decide (2≤c)∧c / 2<2:=by decide
theorem u0u (cs:List Nat) (i:Nat) (h:Ok cs):(hi2 cs).testBit i=decide (2≤at0 cs i):=by
 induction cs generalizing i with
 |nil=>rw [w6p];exact Nat.zero_testBit i
 |cons c r ih=>cases i with
  |zero=>rw [Nat.testBit_zero,u5h,v2c,Nat.add_mul_mod_self_left];exact(w5b c (h c (.head _))).1
  |succ i=>rw [Nat.testBit_add_one,u5i,←ih i h.tail,v2c,Nat.add_mul_div_left _ _ Nat.two_pos,Nat.div_eq_of_lt (w5b c (h c (.head _))).2,Nat.zero_add]
theorem w4h:∀(cs:List Nat),lo2 cs<2^cs.length
 |[]=>Nat.one_pos
 |c::r=>by have:=w4h r;rw [u6r,List.length_cons,Nat.pow_succ];lia
theorem x7l:∀(cs:List Nat),Ok cs→hi2 cs<2^cs.length
 |[],_=>Nat.one_pos
 |c::r,h=>by have:=x7l r h.tail;have:=h c (.head _);rw [v2c,List.length_cons,Nat.pow_succ];lia
theorem u2m {xs ys:List Nat} (l:xs.length=ys.length) (e:∀i,i<xs.length→at0 xs i=at0 ys i):xs=ys:=by
 induction xs generalizing ys with
 |nil=>cases ys with
  |nil=>rfl
  |cons _ _=>cases l
 |cons x xs ih=>cases ys with
  |nil=>cases l
  |cons y ys=>
   have h0:=e 0 (Nat.succ_pos _)
   rw [u5h,u5h]at h0
   rw [h0,ih (Nat.succ.inj l) fun i hi=>by have h:=e (i+1) (Nat.succ_lt_succ hi);rwa [u5i,u5i]at h]
theorem x4j:∀x,x<4→∀y,y<4→(x % 2=1↔y % 2=1)→(2≤x↔2≤y)→x=y:=by decide
theorem y9s {xs ys:List Nat} (hx:Ok xs) (hy:Ok ys) (hl:xs.length=ys.length) (h1:lo2 xs=lo2 ys) (h2:hi2 xs=hi2 ys):xs=ys:=by
 refine u2m hl fun i _=>?_
 have a:=congrArg (·.testBit i) h1
 have b:=congrArg (·.testBit i) h2
 simp only [u1i,u0u _ _ hx,u0u _ _ hy,decide_eq_decide]at a b
 exact x4j _ (u1a hx i) _ (u1a hy i) a b
noncomputable def gen (w:Nat) (f:Nat→Nat):List Nat:=(List.range w).map f
theorem u1g (w:Nat) (f:Nat→Nat):(gen w f).length=w:=by simp [gen]
theorem u2i (w:Nat) (f:Nat→Nat) (i:Nat):at0 (gen w f) i=if i<w then f i else 0:=by
 unfold at0 gen
 rw [List.getElem?_map]
 by_cases h:i<w
 ·rw [List.getElem?_range h,if_pos h];rfl
 ·rw [List.getElem?_eq_none (by simp;lia),if_neg h];rfl
theorem u6u {w:Nat} {f:Nat→Nat} (h:∀i,i<w→f i<4):Ok (gen w f):=fun c hc=>by
 unfold gen at hc
 refine u0d (List.mem_map.mp hc) fun i hi zz501=>?_
 subst zz501
 exact h i (List.mem_range.mp hi)
theorem V_of {cs:List Nat} (h:Ok cs) {w a b:Nat} (hw:w=cs.length) (ha:∀i,a.testBit i=decide (at0 cs i % 2=1)) (hb:∀i,b.testBit i=decide (2≤at0 cs i)):MV.tup [.int w,.int a,.int b]=V cs:=by
 have e1:a=lo2 cs:=Nat.eq_of_testBit_eq fun i=>by rw [ha,u1i]
 have e2:b=hi2 cs:=Nat.eq_of_testBit_eq fun i=>by rw [hb,u0u _ _ h]
 rw [e1,e2,hw];rfl
end Mine
end
section
open PySem PySem.W PyProof.Rows
set_option maxRecDepth 100000
set_option maxHeartbeats 1000000
namespace Mine
theorem u2c {p:Prop} [Decidable p] {A B:Prop} (h1:p→A) (h2:¬p→B):if decide p=true then A else B:=by
 by_cases h:p
 ·rw [if_pos (decide_eq_true h)];exact h1 h
 ·rw [if_neg (fun z=>h (of_decide_eq_true z))];exact h2 h
theorem le0 {k m r:Nat} (h:m≤r) (e:Nat.ble k m=true):k≤r:=Nat.le_trans (Nat.le_of_ble_eq_true e) h
theorem le1 {k m r:Nat} (h:m≤r) (e:Nat.ble (k+1) m=true):k≤r- 1:=Nat.le_sub_one_of_lt (Nat.le_trans (Nat.le_of_ble_eq_true e) h)
theorem le2 {k m r:Nat} (h:m≤r) (e:Nat.ble (k+2) m=true):k≤r- 1- 1:=Nat.le_sub_one_of_lt (le1 h e)
theorem ne0 {m r:Nat} (h:m≤r) (e:Nat.ble 1 m=true):r≠0:=Nat.ne_of_gt (Nat.le_trans (Nat.le_of_ble_eq_true e) h)
theorem ne1 {m r:Nat} (h:m≤r) (e:Nat.ble 2 m=true):r- 1≠0:=Nat.ne_of_gt (le1 h e)
theorem le3 {k m r:Nat} (h:m≤r) (e:Nat.ble (k+3) m=true):k≤r- 1- 1- 1:=Nat.le_sub_one_of_lt (le2 h e)
theorem ne2 {m r:Nat} (h:m≤r) (e:Nat.ble 3 m=true):r- 1- 1≠0:=Nat.ne_of_gt (le2 h e)
theorem nl0 {n a b r:Nat} (h:n+a≤r) (e:Nat.ble b a=true):n+b≤r:=Nat.le_trans (Nat.add_le_add_left (Nat.le_of_ble_eq_true e) n) h
theorem nl1 {n a b r:Nat} (h:n+a≤r) (e:Nat.ble (b+1) a=true):n+b≤r- 1:=Nat.le_sub_one_of_lt (nl0 h e)
theorem nl2 {n a b r:Nat} (h:n+a≤r) (e:Nat.ble (b+2) a=true):n+b≤r- 1- 1:=Nat.le_sub_one_of_lt (nl1 h e)
theorem nz0 {n a r:Nat} (h:n+a≤r) (_:Nat.ble 0 a=true):n≤r:=Nat.le_of_add_right_le h
theorem nz1 {n a r:Nat} (h:n+a≤r) (e:Nat.ble 1 a=true):n≤r- 1:=nl1 (b:=0) h e
theorem nz2 {n a r:Nat} (h:n+a≤r) (e:Nat.ble 2 a=true):n≤r- 1- 1:=nl2 (b:=0) h e
theorem nz3 {n a r:Nat} (h:n+a≤r) (e:Nat.ble 3 a=true):n≤r- 1- 1- 1:=Nat.le_sub_one_of_lt (nl2 (b:=1) h e)
theorem cn0 {n a c k r:Nat} (h:n+a≤r) (g:c≤n) (e:Nat.ble k (c+a)=true):k≤r:=Nat.le_trans (Nat.le_of_ble_eq_true e) (Nat.le_trans (Nat.add_le_add_right g a) h)
theorem cn1 {n a c k r:Nat} (h:n+a≤r) (g:c≤n) (e:Nat.ble (k+1) (c+a)=true):k≤r- 1:=Nat.le_sub_one_of_lt (cn0 h g e)
theorem cn2 {n a c k r:Nat} (h:n+a≤r) (g:c≤n) (e:Nat.ble (k+2) (c+a)=true):k≤r- 1- 1:=Nat.le_sub_one_of_lt (cn1 h g e)
theorem cn3 {n a c k r:Nat} (h:n+a≤r) (g:c≤n) (e:Nat.ble (k+3) (c+a)=true):k≤r- 1- 1- 1:=Nat.le_sub_one_of_lt (cn2 h g e)
theorem cm0 {n c k r:Nat} (h:n≤r) (g:c≤n) (e:Nat.ble k c=true):k≤r:=Nat.le_trans (Nat.le_of_ble_eq_true e) (Nat.le_trans g h)
theorem cm1 {n c k r:Nat} (h:n≤r) (g:c≤n) (e:Nat.ble (k+1) c=true):k≤r- 1:=Nat.le_sub_one_of_lt (cm0 h g e)
theorem cm2 {n c k r:Nat} (h:n≤r) (g:c≤n) (e:Nat.ble (k+2) c=true):k≤r- 1- 1:=Nat.le_sub_one_of_lt (cm1 h g e)
theorem ce0 {n a c r:Nat} (h:n+a≤r) (g:c≤n) (e:Nat.ble 1 (c+a)=true):r≠0:=Nat.ne_of_gt (cn0 h g e)
theorem ce1 {n a c r:Nat} (h:n+a≤r) (g:c≤n) (e:Nat.ble 2 (c+a)=true):r- 1≠0:=Nat.ne_of_gt (cn1 h g e)
theorem ce2 {n a c r:Nat} (h:n+a≤r) (g:c≤n) (e:Nat.ble 3 (c+a)=true):r- 1- 1≠0:=Nat.ne_of_gt (cn2 h g e)
theorem vl0 {x a b:Nat} (h:x≤a) (e:Nat.ble a b=true):x≤b:=Nat.le_trans h (Nat.le_of_ble_eq_true e)
theorem vq0 {x a b:Nat} (h:x=a) (e:Nat.ble a b=true):x≤b:=vl0 (Nat.le_of_eq h) e
theorem vq1 {x a:Nat} (h:x=a) (e:Nat.ble 1 a=true):0<x:=h▸Nat.le_of_ble_eq_true e
theorem vq2 {P:Prop} {x a b:Nat} (h:P∧x=a) (e:Nat.ble a b=true):x≤b:=vq0 h.2 e
theorem vq3 {P:Prop} {x a:Nat} (h:P∧x=a) (e:Nat.ble 1 a=true):0<x:=vq1 h.2 e
theorem vt0 {x a b:Nat} (h:x<a) (e:Nat.ble a (b+1)=true):x≤b:=Nat.le_of_lt_succ (Nat.lt_of_lt_of_le h (Nat.le_of_ble_eq_true e))
theorem vt1 {x a b:Nat} (h:x<a) (e:Nat.ble a b=true):x<b:=Nat.lt_of_lt_of_le h (Nat.le_of_ble_eq_true e)
theorem vt2 {x a b:Nat} (h:x≤a) (e:Nat.ble (a+1) b=true):x<b:=Nat.lt_of_le_of_lt h (Nat.le_of_ble_eq_true e)
theorem vn0 {x y:Nat} (h:¬x<y) (_:Nat.ble 0 0=true):y≤x:=Nat.le_of_not_lt h
theorem sn1 {d a r:Nat} (h:d+1+a≤r) (_:Nat.ble 0 0=true):d+a≤r- 1:=Nat.le_sub_one_of_lt (by rw [Nat.add_right_comm]at h;exact h)
theorem ca0 {n a k r:Nat} (h:n+a≤r) (e:Nat.ble k a=true):k≤r:=Nat.le_trans (Nat.le_of_ble_eq_true e) (Nat.le_trans (Nat.le_add_left a n) h)
theorem ca1 {n a k r:Nat} (h:n+a≤r) (e:Nat.ble (k+1) a=true):k≤r- 1:=Nat.le_sub_one_of_lt (ca0 h e)
theorem ca2 {n a k r:Nat} (h:n+a≤r) (e:Nat.ble (k+2) a=true):k≤r- 1- 1:=Nat.le_sub_one_of_lt (ca1 h e)
theorem cb0 {n a r:Nat} (h:n+a≤r) (e:Nat.ble 1 a=true):r≠0:=Nat.ne_of_gt (ca0 h e)
theorem cb1 {n a r:Nat} (h:n+a≤r) (e:Nat.ble 2 a=true):r- 1≠0:=Nat.ne_of_gt (ca1 h e)
local macro_rules | `(tactic| walk_at "mini") => do
  let l := ids "z0d z0e z1j x9j w0g x4d x5c x9i x4c x4b z1l z1h z1m z0c z0b z1i z1k w5q x8o y8x y8t x3b x8m x8l x8p x8k x3a y8z y8u y8v y9a e_or y8y y8w y8s x8j e_dI z1r x8n x8i z0n z0m w5m z1v x8z x9s x9v t_or x9t x9u y9z z1f z0a y9x z1g y9y y9w z1d x3w z1u z1t x4y x4z x9h x9g x9k x5f x4f x4g x6l z0o x9l x9f x6u x6m x4w x4x x6a x4e y9o y9e y9k y9m y9l y9j y9h y9g y9n z1c y9c y9d x9n y9i y9f z1b z0u z0v z0x z0z z1a z0q z0r is_n is_i is_b is_s is_t is_r no_n no_i no_b no_s no_t no_r z0p z0s z0y z0w z0t tr_b tr_i tr_n it0 it1 it2 it3 it4 it5 z0k z0l if_true if_false z0g z0h z0i z0j z1o z1p Nat.reduceBEq List.getElem?_cons_zero List.getElem?_cons_succ true_and List.nil_append List.cons_append"
  `(tactic| try simp only [$[$l:term],*])
local macro_rules | `(tactic| walk_at "st") => do
  let l := ids "s_last s_stepH s_lastR s_stepR"
  `(tactic| ((first $[| refine $l rfl ?_]*); walk_at "mini"))
local macro_rules | `(tactic| walk_at "om") => do
  let h ← `(by assumption)
  let r ← `(rfl)
  let l := ids "oa ob oc" ++ (ids "le0 le1 ne0 ne1 le2 le3 ne2 nl0 nl1 nl2 nz0 nz1 nz2 nz3 vl0 vq0 vq1 vq2 vq3 vt0 vt1 vt2 vn0 sn1 ca0 ca1 ca2 cb0 cb1").map (Lean.Syntax.mkApp · #[h, r]) ++ (ids "cn0 cn1 cn2 cn3 cm0 cm1 cm2 ce0 ce1 ce2").map (Lean.Syntax.mkApp · #[h, h, r])
  `(tactic| first $[| exact $l]* | lia)
noncomputable def mk (w:Nat):Nat:=2^w- 1
theorem u3j (w i:Nat):(mk w).testBit i=decide (i<w):=Nat.testBit_two_pow_sub_one ..
theorem x5v {w:Nat} (h:w≤60):mk w<2^60:=by
 have:2^w≤2^60:=Nat.pow_le_pow_right (by decide) h
 have:=Nat.two_pow_pos w
 unfold mk;lia
theorem w2y (m n:Nat):(m:Int).fdiv (2^(n:Int).toNat)=((m>>>n:Nat):Int):=by
 rw [Int.toNat_natCast,Nat.shiftRight_eq_div_pow]
 have:(2^n:Int)=((2^n:Nat):Int):=by simp
 rw [this,Int.fdiv_eq_ediv_of_nonneg _ (Int.natCast_nonneg _)];rfl
theorem w7d (m n:Nat):(m:Int)*2^(n:Int).toNat=((m<<<n:Nat):Int):=by
 rw [Int.toNat_natCast,Nat.shiftLeft_eq];simp
theorem fits {m:Nat} (h:m<2^60):(m:Int).natAbs<2^64:=by
 rw [Int.natAbs_natCast];exact Nat.lt_of_lt_of_le h (by decide)
theorem mil {n:Nat} (h:n≤100):0≤(n:Int)∧(n:Int)≤1000000:=by lia
theorem x8q {lo L:Int} {n w:Nat} (h20:n≤20) (h1: -100≤lo) (hL:(if(n:Int)<lo+w then(n:Int)else lo+w)=L) (hc:¬L≤(lo.toNat:Int)):
  ∃f s k:Nat,lo.toNat=f∧(lo.toNat:Int)- lo=s∧L- lo.toNat=k∧lo=(f:Int)- s∧(f=0∨s=0)∧f+k≤n∧s+k≤w∧(f+k=n∨s+k=w)∧s≤100:=by
 obtain⟨f,s,e,h0⟩:∃f s:Nat,lo=(f:Int)- s∧(f=0∨s=0):=by
  rcases Int.eq_nat_or_neg lo with⟨a,e|e⟩
  ·exact⟨a,0,by rw [e];exact(Int.sub_zero _).symm,.inr rfl⟩
  ·exact⟨0,a,by rw [e];exact(Int.zero_sub _).symm,.inl rfl⟩
 have t:lo.toNat=f:=by lia
 have fs:(f:Int)- lo=s:=by rw [e];exact Int.sub_sub_self ..
 have s100:s≤100:=by lia
 rw [t]at hc ⊢
 clear h20 h1 t
 by_cases h:(n:Int)<lo+w
 ·rw [if_pos h]at hL;subst hL
  have fn:f≤n:=Nat.le_of_lt (Int.ofNat_lt.mp (Int.not_le.mp hc))
  have sw:s+(n- f)≤w:=by lia
  exact⟨f,s,n- f,rfl,fs,(Int.ofNat_sub fn).symm,e,h0,Nat.le_of_eq (Nat.add_sub_of_le fn),sw,.inl (Nat.add_sub_of_le fn),s100⟩
 ·rw [if_neg h]at hL;subst hL
  have sw:s≤w:=by lia
  have fn:f+(w- s)≤n:=by lia
  exact⟨f,s,w- s,rfl,fs,by rw [e,Int.ofNat_sub sw];lia,e,h0,fn,Nat.le_of_eq (Nat.add_sub_of_le sw),.inr (Nat.add_sub_of_le sw),s100⟩
theorem x4i {f s:Nat} {lo:Int} (e:lo=(f:Int)- s) {i:Nat} (hi:s≤i):f+(i- s)=(lo+i).toNat:=by lia
theorem w9y {s k w i:Nat} (h:s+k≤w) (hi:s≤i∧i- s<k):i<w:=by lia
section
variable {c:CX} {r:Nat} {σ:Hp} {Q E:MV→Hp→Prop} {t:Tk Q E}
theorem x5y {a b:Int} (hr:1≤r) (q:Q (.int (if b>a then b else a)) σ):CS1 c.toCx r (.builtin "max") [.int a,.int b] σ Q E t:=by
 obtain⟨r,rfl⟩:∃k,r=k+1:=⟨r- 1,by lia⟩
 exact w7t q
theorem x5w {a b:Int} (hr:1≤r) (q:Q (.int (if b<a then b else a)) σ):CS1 c.toCx r (.builtin "min") [.int a,.int b] σ Q E t:=by
 obtain⟨r,rfl⟩:∃k,r=k+1:=⟨r- 1,by lia⟩
 exact w7q q
theorem u3w {n:Int} (w:Nat) (hr:1≤r) (hn:n=w) (hw:w≤60) (q:Q (.int (mk w)) σ):CS1 c.toCx r (.ref A.f_mask) [.int n] σ Q E t:=by
 subst hn
 refine w9m hr ?_
 walk_at"st"
 refine⟨⟨by decide,by lia,by lia⟩,?_⟩
 have e:(1:Int)*2^(w:Int).toNat- 1=(mk w:Int):=by
  have:=Nat.two_pow_pos w
  unfold mk
  rw [Int.toNat_natCast,Int.one_mul,Int.ofNat_sub this];simp
 rw [e];exact q
theorem v2e {w:Nat}:Ok (gen w fun _=>3):=u6u fun _ _=>by decide
theorem u9s {n:Int} (w:Nat) (hr:2≤r) (hn:n=w) (hw:w≤60) (q:Q (V (gen w fun _=>3)) σ):CS1 c.toCx r (.ref A.f_all_x) [.int n] σ Q E t:=by
 subst hn
 refine w6f (by walk_at"om") ?_
 walk_at"st"
 refine u3w w (by walk_at"om") rfl hw ?_
 walk_at"st"
 rw [V_of (cs:=gen w fun _=>3) v2e (by rw [u1g]) (fun i=>?_) (fun i=>?_)]
 ·exact q
 ·rw [u3j,u2i];split<;>simp [*]
 ·rw [u3j,u2i];split<;>simp [*]
noncomputable def u3g (cs:List Nat) (lo:Int) (w:Nat):List Nat:=gen w fun j=>if 0≤lo+j∧lo+j<cs.length then at0 cs (lo+j).toNat else 3
theorem v3q {cs:List Nat} (h:Ok cs) (lo:Int) (w:Nat):Ok (u3g cs lo w):=u6u fun j _=>by
 split
 ·exact u1a h _
 ·decide
theorem u8o {cs:List Nat} {lo n:Int} (f w:Nat) (hr:3≤r) (h:Ok cs) (hl:cs.length≤20) (h0:0<w) (hfw:f+w≤cs.length) (hlo:lo=f) (hn:n=w) (q:Q (V (u3g cs f w)) σ):
  CS1 c.toCx r (.ref A.f_slice_vec) [V cs,.int lo,.int n] σ Q E t:=by
 subst hlo
 subst hn
 have w20:w≤20:=Nat.le_trans (Nat.le_trans (Nat.le_add_left w f) hfw) hl
 refine v2q (by walk_at"om") ?_
 unfold V
 walk_at"st"
 refine x5y (by walk_at"om") ?_
 rw [if_neg (Int.not_lt.mpr (Int.natCast_nonneg f))]
 walk_at"st"
 refine x5w (by walk_at"om") ?_
 rw [←Int.natCast_add,if_neg (Int.not_lt.mpr (Int.ofNat_le.mpr hfw)),Int.natCast_add]
 walk_at"st"
 rw [decide_eq_false (fun z=>by lia)]
 walk_at"mini"
 walk_at"st"
 rw [Int.add_comm,Int.add_sub_cancel]
 refine u3w w (by walk_at"om") rfl (by walk_at"om") ?_
 walk_at"mini"
 walk_at"st"
 rw [Int.sub_self]
 walk_at"st"
 refine u3w w (by walk_at"om") rfl (by walk_at"om") ?_
 walk_at"mini"
 have e0:(0:Int)=((0:Nat):Int):=rfl
 have hkm:=@x5v w (by walk_at"om")
 refine⟨⟨fits hkm,by decide,by decide⟩,?_⟩
 walk_at"st"
 simp only [e0,w2y,bAnd,w7d,bXor]
 refine⟨Int.natCast_nonneg f,⟨fits (Nat.lt_of_le_of_lt Nat.and_le_right hkm),by decide,by decide⟩,?_⟩
 walk_at"st"
 simp only [w2y,bAnd,w7d,bXor]
 refine⟨Int.natCast_nonneg f,⟨fits (Nat.lt_of_le_of_lt Nat.and_le_right hkm),by decide,by decide⟩,?_⟩
 walk_at"st"
 simp only [bOr]
 have hbit:∀(a i:Nat),((a>>>f &&& mk w)<<<0|||(mk w^^^mk w<<<0)).testBit i=(a.testBit (f+i) && decide (i<w)):=fun a i=>by
  rw [Nat.shiftLeft_zero,Nat.shiftLeft_zero,Nat.xor_self,Nat.or_zero,Nat.testBit_and,Nat.testBit_shiftRight,u3j]
 have hs:∀i,at0 (u3g cs f w) i=if i<w then at0 cs (f+i)else 0:=fun i=>by
  unfold u3g
  rw [u2i]
  by_cases hi:i<w
  ·rw [if_pos hi,if_pos hi,if_pos (by lia),←Int.natCast_add,Int.toNat_natCast]
  ·rw [if_neg hi,if_neg hi]
 rw [V_of (cs:=u3g cs f w) (v3q h f w) (by simp [u3g,u1g]) (fun i=>?_) (fun i=>?_)]
 ·exact q
 ·rw [hbit,hs,u1i]
  by_cases hi:i<w
  ·rw [if_pos hi,decide_eq_true hi,Bool.and_true]
  ·rw [if_neg hi,decide_eq_false hi,Bool.and_false];rfl
 ·rw [hbit,hs,u0u _ _ h]
  by_cases hi:i<w
  ·rw [if_pos hi,decide_eq_true hi,Bool.and_true]
  ·rw [if_neg hi,decide_eq_false hi,Bool.and_false];rfl
end
theorem u2s {m:Nat}:m=0↔∀i,m.testBit i=false:=by
 constructor
 ·rintro rfl i;simp
 ·intro h;exact Nat.eq_of_testBit_eq fun i=>by rw [h i];simp
noncomputable def u0k (cs:List Nat):Bool:=cs.all (· <2)
theorem v3d {cs:List Nat} {i:Nat} (h:i<cs.length):at0 cs i ∈ cs:=by
 unfold at0;rw [List.getElem?_eq_getElem h];exact List.getElem_mem h
theorem v1y {cs:List Nat} {c:Nat} (h:c ∈ cs):∃i,i<cs.length∧at0 cs i=c:=by
 refine u0i (List.getElem_of_mem h) fun i zz501=>?_
 obtain⟨hi,e⟩:=zz501
 exact⟨i,hi,by unfold at0;rw [List.getElem?_eq_getElem hi,e];rfl⟩
theorem u3x {cs:List Nat} (h:Ok cs):hi2 cs=0↔u0k cs=true:=by
 rw [u2s]
 unfold u0k
 rw [List.all_eq_true]
 constructor
 ·intro f c hc
  refine u0d (v1y hc) fun i _ e=>?_
  have:=f i
  rw [u0u _ _ h,e]at this
  simp at this ⊢;lia
 ·intro f i
  rw [u0u _ _ h]
  by_cases hi:i<cs.length
  ·have:=f _ (v3d hi);simp at this ⊢;lia
  ·rw [u2d (by walk_at"om")];rfl
section
variable {c:CX} {r:Nat} {σ:Hp} {Q E:MV→Hp→Prop} {t:Tk Q E}
noncomputable def u5n (w:Nat) (n:Int):List Nat:=gen w fun i=>if(n % (2^w:Nat)).toNat.testBit i then 1 else 0
theorem v3b {w:Nat} {n:Int}:Ok (u5n w n):=u6u fun i _=>by split<;>decide
theorem v8y {w:Nat} {n:Int}:n % (2^w:Nat)=(lo2 (u5n w n):Int):=by
 have hp:0<2^w:=Nat.two_pow_pos w
 have h0:=Int.emod_nonneg n (show((2^w:Nat):Int)≠0 by lia)
 have h1:=Int.emod_lt_of_pos n (show 0<((2^w:Nat):Int)by lia)
 refine u0i (Int.eq_ofNat_of_zero_le h0) fun m hm=>?_
 rw [hm]
 have hlt:m<2^w:=by lia
 congr 1
 refine Nat.eq_of_testBit_eq fun i=>?_
 rw [u1i];unfold u5n;rw [u2i,hm]
 by_cases hi:i<w
 ·rw [if_pos hi];cases q:m.testBit i<;>simp [q]
 ·rw [if_neg hi,Nat.testBit_lt_two_pow (Nat.lt_of_lt_of_le hlt (Nat.pow_le_pow_right (by decide) (by walk_at"om")))];rfl
theorem w9o {w:Nat} {n:Int}:hi2 (u5n w n)=0:=by
 rw [u3x v3b];unfold u0k u5n gen
 simp only [List.all_map,List.all_eq_true];intro i _;simp;split<;>decide
theorem u4w {w:Nat} {n:Int}:(u5n w n).length=w:=u1g ..
theorem v1h {n m:Int} (w:Nat) (hr:2≤r) (hn:n=w) (hw:w≤60) (q:Q (V (u5n w m)) σ):CS1 c.toCx r (.ref A.f_from_int) [.int n,.int m] σ Q E t:=by
 subst hn
 refine v5c (by walk_at"om") ?_
 walk_at"st"
 refine u3w w (by walk_at"om") rfl hw ?_
 walk_at"mini"
 unfold mk
 rw [w9s,v8y]
 have e:V (u5n w m)=.tup [.int w,.int (lo2 (u5n w m)),.int 0]:=by unfold V;rw [u4w,w9o];rfl
 rw [e]at q;exact q
theorem u5e {cs:List Nat} (hr:1≤r) (h:Ok cs) (q:Q (.bool (u0k cs)) σ):CS1 c.toCx r (.ref A.f_is_known) [V cs] σ Q E t:=by
 refine v5b (by walk_at"om") ?_
 unfold V
 walk_at"st"
 have e:decide ((hi2 cs:Int)=0)=u0k cs:=by
  have:=u3x h
  cases k:u0k cs with
  |true=>rw [decide_eq_true];have:=this.mpr k;lia
  |false=>rw [decide_eq_false];intro z;have:=this.mp (by walk_at"om");rw [k]at this;cases this
 rw [e];exact q
noncomputable def addC (u v:List Nat):List Nat:=if u0k u && u0k v then u5n u.length (lo2 u+lo2 v)else gen u.length fun _=>3
theorem y9q {u v:List Nat} (hr:4≤r) (hu:Ok u) (hv:Ok v) (hl:u.length≤20) (q:Q (V (addC u v)) σ):CS1 c.toCx r (.ref A.f_add) [V u,V v] σ Q E t:=by
 refine x3s (by walk_at"om") ?_
 walk_at"st"
 have no:∀b:Bool,(b=false→Q (V (gen u.length fun _=>3)) σ)→b=false→swps Tb (CSf c.toCx) (r- 1) M.z2u [some (V u),some (V v)] σ (seqQ (fun l σ1=>swps Tb (CSf c.toCx) (r- 1) M.z2v l σ1 (retQ Q) fun x _ σ1=>E x σ1) (retQ Q)) (fun x _ σ1=>E x σ1):=fun b k hb=>by
  unfold V
  walk_at"st"
  refine u9s u.length (by walk_at"om") rfl (by walk_at"om") ?_
  walk_at"mini"
  exact k hb
 refine u5e (by walk_at"om") hu ?_
 walk_at"mini"
 cases ku:u0k u with
 |false=>
  walk_at"mini"
  exact no false (fun _=>by unfold addC at q;rw [ku]at q;exact q) rfl
 |true=>
  walk_at"mini"
  refine u5e (by walk_at"om") hv ?_
  walk_at"mini"
  cases kv:u0k v with
  |false=>
   walk_at"mini"
   exact no false (fun _=>by unfold addC at q;rw [ku,kv]at q;exact q) rfl
  |true=>
   walk_at"mini"
   unfold V
   walk_at"st"
   refine v1h u.length (by walk_at"om") rfl (by walk_at"om") ?_
   walk_at"mini"
   unfold addC at q;rw [ku,kv]at q;exact q
theorem y9r {a:Nat} (h:a<4):V [a]=.tup [.int 1,.int (a % 2:Nat),.int (a / 2:Nat)]:=rfl
theorem u8v {n:Int} (a:Nat) (hr:1≤r) (hn:n=a) (h:a<4) (q:Q (V [a]) σ):CS1 c.toCx r (.ref A.f_one_bit) [.int n] σ Q E t:=by
 subst hn
 refine v7c (by walk_at"om") ?_
 walk_at"st"
 refine⟨by decide,?_⟩
 rw [y9r h]at q
 have e1:Builtin.bitAnd (a:Int) 1=((a % 2:Nat):Int):=by rw [show(1:Int)=((1:Nat):Int)from rfl,bAnd,Nat.and_one_is_mod]
 have e2:(a:Int).fdiv (2^(1:Int).toNat)=((a / 2:Nat):Int):=by rw [show(1:Int).toNat=1 from rfl,Int.fdiv_eq_ediv_of_nonneg _ (by decide)];simp
 rw [e1,e2];exact q
noncomputable def u2z (cs:List Nat):Nat:=if cs.any (· ==1)then 1 else if cs.all (· ==0)then 0 else 3
theorem v5n {cs:List Nat} (hr:2≤r) (h:Ok cs) (hl:cs.length≤20) (q:Q (.int (u2z cs)) σ):CS1 c.toCx r (.ref A.f_truth) [V cs] σ Q E t:=by
 refine w6d (by walk_at"om") ?_
 unfold V
 walk_at"st"
 refine u3w cs.length (by walk_at"om") rfl (by walk_at"om") ?_
 walk_at"mini"
 simp only [bXor,bAnd]
 have e1:(lo2 cs &&& (hi2 cs^^^mk cs.length))=0↔cs.any (· ==1)=false:=by
  rw [u2s,List.any_eq_false]
  constructor
  ·intro f x hx
   refine u0d (v1y hx) fun i hi e=>?_
   have:=f i
   rw [Nat.testBit_and,Nat.testBit_xor,u1i,u0u _ _ h,u3j,e]at this
   intro z
   simp at z
   subst z
   simp [hi]at this
  ·intro f i
   rw [Nat.testBit_and,Nat.testBit_xor,u1i,u0u _ _ h,u3j]
   by_cases hi:i<cs.length
   ·have:=f _ (v3d hi)
    have:=u1a h i
    simp [hi]at*;lia
   ·rw [u2d (by walk_at"om")];simp
 have e2:lo2 cs=0∧hi2 cs=0↔cs.all (· ==0)=true:=by
  rw [u2s,u2s,List.all_eq_true]
  constructor
  ·intro zz2001 x hx
   refine u0a zz2001 fun f g=>?_
   refine u0d (v1y hx) fun i hi e=>?_
   have a:=f i;have b:=g i
   rw [u1i,e]at a;rw [u0u _ _ h,e]at b
   simp at a b ⊢;lia
  ·intro f
   have k:∀i,at0 cs i=0:=fun i=>by
    by_cases hi:i<cs.length
    ·simpa using f _ (v3d hi)
    ·exact u2d (by walk_at"om")
   exact⟨fun i=>by rw [u1i,k];rfl,fun i=>by rw [u0u _ _ h,k];rfl⟩
 unfold u2z at q
 cases a:cs.any (· ==1)with
 |true=>
  rw [a]at q
  rw [decide_eq_false (fun z=>by have:=e1.mp (by walk_at"om");rw [a]at this;cases this)]
  walk_at"mini"
  walk_at"st"
  exact q
 |false=>
  rw [a]at q
  rw [decide_eq_true (by have:=e1.mpr a;lia)]
  walk_at"mini"
  walk_at"st"
  cases b:cs.all (· ==0)with
  |true=>
   rw [b]at q
   refine u0a (e2.mpr b) fun f g=>?_
   rw [decide_eq_true (by lia:(lo2 cs:Int)=0),decide_eq_true (by lia:(hi2 cs:Int)=0)]
   walk_at"mini"
   walk_at"st"
   exact q
  |false=>
   rw [b]at q
   have ng:¬(lo2 cs=0∧hi2 cs=0):=fun z=>by rw [e2.mp z]at b;cases b
   by_cases f:lo2 cs=0
   ·have g:¬hi2 cs=0:=fun z=>ng ⟨f,z⟩
    rw [decide_eq_true (by lia:(lo2 cs:Int)=0),decide_eq_false (by lia:¬(hi2 cs:Int)=0)]
    walk_at"mini"
    walk_at"st"
    exact q
   ·rw [decide_eq_false (by lia:¬(lo2 cs:Int)=0)]
    walk_at"mini"
    walk_at"st"
    exact q
end
theorem x5a:∀x,x<4→∀y,y<4→¬(x<2∧y<2∧x≠y)→((decide (x % 2=1)^^decide (y % 2=1)) && ((decide (2≤x)||decide (2≤y))^^true))=false:=by decide
section
variable {c:CX} {r:Nat} {σ:Hp} {Q E:MV→Hp→Prop} {t:Tk Q E}
noncomputable def u3s (u v:List Nat):Nat:=if(List.range u.length).any (fun i=>decide (at0 u i<2∧at0 v i<2∧at0 u i≠at0 v i))then 0 else if u0k u && u0k v then 1 else 3
theorem v7v {u v:List Nat}:u3s u v<4:=by unfold u3s;split<;>(try split)<;>decide
theorem w5n {u v:List Nat} (hr:3≤r) (hu:Ok u) (hv:Ok v) (hl:u.length=v.length) (hl20:u.length≤20) (q:Q (V [u3s u v]) σ):CS1 c.toCx r (.ref A.f_equal) [V u,V v] σ Q E t:=by
 refine w6e (by walk_at"om") ?_
 unfold V
 repeat walk_at"st"
 refine u3w u.length (by walk_at"om") rfl (by walk_at"om") ?_
 walk_at"mini"
 simp only [bXor,bAnd,bOr]
 have e1:((lo2 u^^^lo2 v) &&& ((hi2 u|||hi2 v)^^^mk u.length))=0↔(List.range u.length).any (fun i=>decide (at0 u i<2∧at0 v i<2∧at0 u i≠at0 v i))=false:=by
  rw [u2s,List.any_eq_false]
  constructor
  ·intro f i hi
   have hi:=List.mem_range.mp hi
   have:=f i
   simp only [Nat.testBit_and,Nat.testBit_xor,Nat.testBit_or,u1i,u0u _ _ hu,u0u _ _ hv,u3j]at this
   simp only [decide_eq_true_eq]
   intro zz2002
   refine u2k zz2002 fun h1 h2 h3=>?_
   rcases(by lia:at0 u i=0∨at0 u i=1)with e|e<;>rcases(by lia:at0 v i=0∨at0 v i=1)with e'|e'<;>simp [e,e',hi]at this h3
  ·intro f i
   simp only [Nat.testBit_and,Nat.testBit_xor,Nat.testBit_or,u1i,u0u _ _ hu,u0u _ _ hv,u3j]
   by_cases hi:i<u.length
   ·have:=f i (List.mem_range.mpr hi)
    simp only [decide_eq_true_eq]at this
    rw [decide_eq_true hi]
    exact x5a _ (u1a hu i) _ (u1a hv i) this
   ·rw [u2d (by walk_at"om"),u2d (by walk_at"om")];rfl
 have e2:(hi2 u|||hi2 v)=0↔(u0k u && u0k v)=true:=by
  rw [Bool.and_eq_true,←u3x hu,←u3x hv]
  constructor
  ·intro h
   rw [u2s]at h
   constructor<;>(rw [u2s];intro i;have:=h i;rw [Nat.testBit_or]at this;simp at this;first|exact this.1|exact this.2)
  ·rintro ⟨a,b⟩;rw [a,b];rfl
 unfold u3s at q
 cases a:(List.range u.length).any (fun i=>decide (at0 u i<2∧at0 v i<2∧at0 u i≠at0 v i))with
 |true=>
  rw [a]at q
  rw [decide_eq_false (fun z=>by have:=e1.mp (by walk_at"om");rw [a]at this;cases this)]
  walk_at"mini"
  walk_at"st"
  refine u8v 0 (by walk_at"om") rfl (by decide) ?_
  walk_at"mini"
  exact q
 |false=>
  rw [a]at q
  rw [decide_eq_true (by have:=e1.mpr a;lia)]
  walk_at"mini"
  walk_at"st"
  cases b:(u0k u && u0k v)with
  |true=>
   rw [b]at q
   rw [decide_eq_true (by have:=e2.mpr b;lia)]
   walk_at"mini"
   refine u8v 1 (by walk_at"om") rfl (by decide) ?_
   walk_at"mini"
   exact q
  |false=>
   rw [b]at q
   rw [decide_eq_false (fun z=>by have:=e2.mp (by walk_at"om");rw [b]at this;cases this)]
   walk_at"mini"
   refine u8v 3 (by walk_at"om") rfl (by decide) ?_
   walk_at"mini"
   exact q
noncomputable def putC (cs:List Nat) (lo:Int) (ps:List Nat):List Nat:=gen cs.length fun(i:Nat)=>if lo≤i∧(i:Int)<lo+ps.length then at0 ps ((i:Int)- lo).toNat else at0 cs i
theorem v6g {cs ps:List Nat} (h:Ok cs) (hp:Ok ps) (lo:Int):Ok (putC cs lo ps):=u6u fun j _=>by
 split
 ·exact u1a hp _
 ·exact u1a h _
theorem u0y {cs ps:List Nat} {lo:Int}:(putC cs lo ps).length=cs.length:=u1g ..
theorem win' {f s k n w:Nat} {lo:Int} (e:lo=(f:Int)- s) (h0:f=0∨s=0) (h1:s+k≤w) (h3:f+k=n∨s+k=w) {i:Nat} (hi:i<n):(f≤i∧i- f<k)↔(lo≤(i:Int)∧(i:Int)<lo+w):=by subst e;lia
theorem x1r {lo L:Int} {n w i:Nat} (hL:(if(n:Int)<lo+w then(n:Int)else lo+w)=L) (hc:L≤(lo.toNat:Int)) (hi:i<n):¬(lo≤(i:Int)∧(i:Int)<lo+w):=by
 by_cases h:(n:Int)<lo+w
 ·rw [if_pos h]at hL;subst hL;lia
 ·rw [if_neg h]at hL;subst hL;lia
theorem v6f {cs ps:List Nat} {lo:Int} (hr:3≤r) (h:Ok cs) (hp:Ok ps) (hl:cs.length≤20) (hw:ps.length≤20) (hlo: -100≤lo∧lo≤100) (q:Q (V (putC cs lo ps)) σ):
  CS1 c.toCx r (.ref A.f_put_slice) [V cs,.int lo,V ps] σ Q E t:=by
 refine v2t (by walk_at"om") ?_
 unfold V
 walk_at"st"
 refine x5y (by walk_at"om") ?_
 walk_at"st"
 refine x5w (by walk_at"om") ?_
 rw [show(if 0>lo then(0:Int)else lo)=(lo.toNat:Int)by split<;>lia]
 generalize hL:(if(cs.length:Int)<lo+ps.length then(cs.length:Int)else lo+ps.length)=L
 walk_at"st"
 by_cases hc:L≤(lo.toNat:Int)
 ·rw [decide_eq_true hc]
  walk_at"mini"
  walk_at"st"
  have:putC cs lo ps=cs:=by
   refine u2m (by simp [putC,u1g]) fun i hi=>?_
   rw [u0y]at hi
   unfold putC
   rw [u2i,if_pos hi,if_neg (x1r hL hc hi)]
  rw [this]at q;exact q
 ·rw [decide_eq_false hc]
  walk_at"mini"
  walk_at"st"
  obtain⟨f,s,k,hf,hs,hk,e,h0,h1,h2,h3,s100⟩:=x8q hl hlo.1 hL hc
  have f20:=Nat.le_trans (Nat.le_of_add_right_le h1) hl
  have hk20:=Nat.le_trans (Nat.le_trans (Nat.le_add_left k f) h1) hl
  have mf:=mil (Nat.le_trans f20 (by decide))
  refine u3w k (by walk_at"om") hk (by walk_at"om") ?_
  walk_at"st"
  rw [hs,hf]
  walk_at"st"
  refine u3w cs.length (by walk_at"om") rfl (by walk_at"om") ?_
  walk_at"mini"
  have hkm:=@x5v k (by walk_at"om")
  refine⟨⟨fits hkm,mf.1,mf.2⟩,?_⟩
  walk_at"st"
  simp only [w2y,bAnd,w7d,bXor]
  refine⟨Int.natCast_nonneg s,⟨fits (Nat.lt_of_le_of_lt Nat.and_le_right hkm),mf.1,mf.2⟩,?_⟩
  walk_at"st"
  simp only [w2y,bAnd,w7d,bXor]
  refine⟨Int.natCast_nonneg s,⟨fits (Nat.lt_of_le_of_lt Nat.and_le_right hkm),mf.1,mf.2⟩,?_⟩
  walk_at"st"
  simp only [bOr]
  have hbit:∀(x y i:Nat),((x &&& (mk cs.length^^^mk k<<<f))|||((y>>>s &&& mk k)<<<f)).testBit i=((x.testBit i && (decide (i<cs.length)^^decide (f≤i∧i- f<k)))||(decide (f≤i∧i- f<k) && y.testBit (s+(i- f)))):=fun x y i=>by
   simp only [Nat.testBit_or,Nat.testBit_xor,Nat.testBit_shiftLeft,Nat.testBit_and,Nat.testBit_shiftRight,u3j]
   by_cases h1:f≤i<;>by_cases h2:i- f<k<;>by_cases h3:i<cs.length<;>simp [h1,h2,h3]
  have hj:=fun{i:Nat}=>win' (i:=i) e h0 h2 h3
  have hx:=fun{i:Nat} (hi:f≤i)=>(x4i (f:=s) (s:=f) (lo:= -lo) (i:=i) (by rw [e,Int.neg_sub]) hi).trans (congrArg Int.toNat (by rw [Int.add_comm,←Int.sub_eq_add_neg]))
  rw [V_of (cs:=putC cs lo ps) (v6g h hp lo) u0y.symm (fun i=>?_) (fun i=>?_)]
  ·exact q
  ·rw [hbit];unfold putC;rw [u2i]
   by_cases hi:i<cs.length
   ·rw [if_pos hi]
    by_cases hc:f≤i∧i- f<k
    ·rw [if_pos ((hj hi).mp hc),decide_eq_true hc,decide_eq_true hi,u1i,u1i,hx hc.1];simp
    ·rw [if_neg (fun z=>hc ((hj hi).mpr z)),decide_eq_false hc,decide_eq_true hi,u1i];simp
   ·rw [if_neg hi,decide_eq_false (fun z=>hi (w9y h1 z)),decide_eq_false hi];simp
  ·rw [hbit];unfold putC;rw [u2i]
   by_cases hi:i<cs.length
   ·rw [if_pos hi]
    by_cases hc:f≤i∧i- f<k
    ·rw [if_pos ((hj hi).mp hc),decide_eq_true hc,decide_eq_true hi,u0u _ _ h,u0u _ _ hp,hx hc.1];simp
    ·rw [if_neg (fun z=>hc ((hj hi).mpr z)),decide_eq_false hc,decide_eq_true hi,u0u _ _ h];simp
   ·rw [if_neg hi,decide_eq_false (fun z=>hi (w9y h1 z)),decide_eq_false hi];simp
theorem v7y {cs ps:List Nat} (hl:cs.length=ps.length):putC cs 0 ps=ps:=by
 refine u2m (by rw [u0y,hl]) fun i hi=>?_
 rw [u0y]at hi
 unfold putC
 rw [u2i,if_pos hi,if_pos (by walk_at"om")];congr 1;try lia
theorem w0e {cs:List Nat} {w:Nat} (hl:cs.length=w):u3g cs 0 w=cs:=by
 refine u2m (by simp [u3g,u1g,hl]) fun i hi=>?_
 unfold u3g at hi ⊢
 rw [u1g]at hi
 rw [u2i,if_pos hi,if_pos (by walk_at"om")];congr 1;try lia
theorem x0j {m w:Nat} (h:m<2^w):m &&& mk w=m:=by
 unfold mk
 rw [Nat.and_two_pow_sub_one_eq_mod,Nat.mod_eq_of_lt h]
theorem w9a {cs:List Nat} (hr:3≤r) (h:Ok cs) (l:cs.length=4) (q:Q (V cs) σ):CS1 c.toCx r (.ref A.f_extend) [V cs,.int 4,.bool false] σ Q E t:=by
 have h1:=w4h cs
 have h2:=x7l cs h
 unfold V at q ⊢
 rw [l]at q h1 h2 ⊢
 refine w1f (by walk_at"om") ?_
 walk_at"st"
 rw [decide_eq_true (by decide:(4:Int)≤((4:Nat):Int))]
 walk_at"mini"
 walk_at"st"
 refine x3o (by walk_at"om") ?_
 walk_at"st"
 refine u3w 4 (by walk_at"om") rfl (by decide) ?_
 walk_at"mini"
 walk_at"st"
 simp only [bAnd]
 rw [x0j h1,x0j h2]
 exact q
end
def Same (F:List Addr) (σ σ':Hp):Prop:=∀a o,σ a=some o→a ∉ F→σ' a=some o
theorem Same.refl (F:List Addr) (σ:Hp):Same F σ σ:=fun _ _ h _=>h
theorem Same.trans {F:List Addr} {σ σ1 σ2:Hp} (h:Same F σ σ1) (k:Same F σ1 σ2):Same F σ σ2:=fun a o e n=>k a o (h a o e n) n
theorem Same.mono {F G:List Addr} {σ σ1:Hp} (h:Same F σ σ1) (s:∀a,a ∈ F→a ∈ G):Same G σ σ1:=fun a o e n=>h a o e fun z=>n (s a z)
theorem Same.put {σ:Hp} {a:Addr} {o:MObj}:Same [a] σ (σ.put a o):=fun b o' e n=>by rw [u0g (fun z=>n (by simp [z]))];exact e
theorem Same.new {F:List Addr} {σ:Hp} {a:Addr} {o:MObj} (h:σ a=none):Same F σ (σ.put a o):=fun b o' e _=>by rw [u0g (fun z=>by rw [z,h]at e;cases e)];exact e
section
variable {c:CX} {r:Nat} {σ:Hp} {Q E:MV→Hp→Prop} {t:Tk Q E}
theorem w7u {x:MV} {lo:Int} (hr:1≤r) (q:Q (.int lo) σ):CS1 c.toCx r (.ref A.f_locate) [.tup [.sym 5,.int lo],x] σ Q E t:=by
 refine w1e (by walk_at"om") ?_
 repeat walk_at"st"
 exact q
theorem v4e {w v1 v2 x y hw:MV} {i:Nat} {cx fr:Addr} {fs:List (Nat×MV)} {xs:List MV} (hr:1≤r) (h1:σ cx=some (.inst A.c_FunctionContext fs)) (h2:fs.lookup 35=some (.ref fr)) (h3:σ fr=some (.list xs)) (h4:xs[i]?=some (.tup [hw,v1,v2])) (hi:i≤100)
  (q:Q hw σ):CS1 c.toCx r (.ref A.f_holder_width) [.tup [.sym 34,w,.int i,x,y],.ref cx] σ Q E t:=by
 refine u8b (by walk_at"om") ?_
 repeat walk_at"st"
 refine u1l h1 (by rfl) h2 ?_
 walk_at"mini"
 refine u0l i h3 rfl (by walk_at"om") h4 ?_
 walk_at"mini"
 exact q
theorem v9b {a:Addr} {xs:List MV} {x:MV} (hs:σ a=some (.list xs)) (hl:xs.length≤1000) (q:Q .none (σ.put a (.list (xs++[x])))):CS1 c.toCx r (.builtin "list.append") [.ref a,x] σ Q E t:=u9r hs (by unfold u0t;lia) q
theorem z1n {a:Addr} {xs:List MV} {x:MV} (hs:σ a=some (.list (xs++[x]))) (hl:xs.length≤1000) (q:Q x (σ.put a (.list xs))):CS1 c.toCx r (.builtin "list.pop") [.ref a] σ Q E t:=v8a hs (by unfold u0t;lia) q
theorem w3h {tg kd:MV} {ref wt w lo hw:Int} {cx:Addr} (hr:2≤r)
  (hh:∀(σ':Hp) (Q' E':MV→Hp→Prop) (t':Tk Q' E'),Same [] σ σ'→Q' (.int hw) σ'→CS1 c.toCx (r- 1) (.ref A.f_holder_width) [.tup [kd,.int w,.int ref,.none,.tup [.sym 5,.int lo]],.ref cx] σ' Q' E' t')
  (q:∀a σ',σ a=none→Same [] σ σ'→σ' a=some (.list (if lo+w≤0∨hw≤lo then[]else[.tup [kd,.int ref,.none,.int lo,.int w,.int (wt- w)]]))→Q (.ref a) σ'):
  CS1 c.toCx r (.ref A.f_resolve_target) [.tup [tg,.int wt,.tup [.tup [kd,.int w,.int ref,.none,.tup [.sym 5,.int lo]]]],.ref cx] σ Q E t:=by
 refine u7a (by walk_at"om") ?_
 walk_at"st"
 intro a ha
 walk_at"mini"
 walk_at"st"
 walk_at"st"
 refine u0v (by walk_at"om") ?_
 walk_at"mini"
 refine u2u ⟨trivial,?_⟩
 show setP _ _ _ _
 walk_at"mini"
 walk_at"st"
 refine⟨by lia,?_⟩
 walk_at"st"
 walk_at"st"
 walk_at"st"
 walk_at"st"
 refine w7u (by walk_at"om") ?_
 walk_at"mini"
 walk_at"st"
 have s0:Same [] σ (σ.put a (.list [])):=Same.new ha
 by_cases h1:lo+w≤0
 ·rw [decide_eq_true h1]
  walk_at"mini"
  repeat walk_at"st"
  refine⟨trivial,?_⟩
  walk_at"mini"
  repeat walk_at"st"
  refine q a _ ha s0 ?_
  rw [u0c,if_pos (.inl h1)]
 ·rw [decide_eq_false h1]
  walk_at"mini"
  refine hh _ _ _ _ s0 ?_
  walk_at"mini"
  by_cases h2:hw≤lo
  ·rw [decide_eq_true h2]
   walk_at"mini"
   repeat walk_at"st"
   refine⟨trivial,?_⟩
   walk_at"mini"
   repeat walk_at"st"
   refine q a _ ha s0 ?_
   rw [u0c,if_pos (.inr h2)]
  ·rw [decide_eq_false h2]
   walk_at"mini"
   walk_at"st"
   refine u6q u0c ?_
   walk_at"mini"
   refine v9b u0c (by simp) ?_
   walk_at"mini"
   refine⟨trivial,?_⟩
   walk_at"mini"
   repeat walk_at"st"
   refine q a _ ha ?_ ?_
   ·rw [u2h];exact Same.new ha
   ·rw [u0c,if_neg (by walk_at"om")]
end
theorem z1e (cs:List Nat):(V cs).isData 8=true:=rfl
theorem y9t {xs ys:List Nat} (hx:Ok xs) (hy:Ok ys) (hl:xs.length=ys.length):(V xs).beq (V ys)=decide (xs=ys):=by
 have e:(V xs).beq (V ys)=(decide ((xs.length:Int)=ys.length) && (decide ((lo2 xs:Int)=lo2 ys) && (decide ((hi2 xs:Int)=hi2 ys) && true))):=rfl
 rw [e,hl]
 by_cases h:xs=ys
 ·subst h;simp
 ·rw [decide_eq_false h]
  by_cases h1:lo2 xs=lo2 ys
  ·have h2:¬hi2 xs=hi2 ys:=fun z=>h (y9s hx hy hl h1 z)
   rw [decide_eq_false (by lia:¬(hi2 xs:Int)=hi2 ys)];simp
  ·rw [decide_eq_false (by lia:¬(lo2 xs:Int)=lo2 ys)];simp
section
variable {c:CX} {r:Nat} {σ:Hp} {Q E:MV→Hp→Prop} {t:Tk Q E}
theorem v7t {a:Addr} {kvs:List (Int×MV)} (hr:1≤r) (hs:σ a=some (.dI kvs)) (hl:kvs.length<64) (q:∀(a':Addr) (ns:List Int),σ a'=none→ns.Perm (kvs.map (·.1))→ns.Pairwise (·≤·)→Q (.ref a') (σ.put a' (.list (ns.map MV.int)))):
  CS1 c.toCx r (.builtin "sorted") [.ref a] σ Q E t:=by
 obtain⟨r,rfl⟩:∃k,r=k+1:=⟨r- 1,by lia⟩
 exact w0d hs hl q
theorem v5q {rows cx:Addr} {v:MV} (hr:2≤r) (h1:σ rows=some (.list [])) (q:∀a σ',Same [] σ σ'→σ' a=some (.list [])→Q (.ref a) σ'):CS1 c.toCx r (.ref A.f_store_rows) [.ref rows,v,.ref cx] σ Q E t:=by
 refine u5t (by walk_at"om") ?_
 walk_at"st"
 intro d hd
 walk_at"mini"
 walk_at"st"
 refine u0v (by walk_at"om") ?_
 walk_at"mini"
 have hr':=u0h h1 hd
 refine⟨[],by rw [u0g hr'];exact h1,?_⟩
 refine u2u ⟨(u0g hr').trans h1,?_⟩
 walk_at"mini"
 walk_at"st"
 refine v7t (by walk_at"om") u0c (by decide) fun a ns ha hp _=>?_
 have:ns=[]:=by simpa using hp
 subst this
 walk_at"mini"
 exact q a _ ((Same.new hd).trans (Same.new ha)) u0c
theorem u7v {rows cx fr:Addr} {i:Nat} {lo:Int} {w:Nat} {fs:List (Nat×MV)} {xs:List MV} {cs old:List Nat} (hr:5≤r) (h0:σ rows=some (.list [.tup [.sym 34,.int i,.none,.int lo,.int w,.int 0]]))
  (h1:σ cx=some (.inst A.c_FunctionContext fs)) (h2:fs.lookup 35=some (.ref fr)) (h3:σ fr=some (.list xs)) (h4:xs[i]?=some (V old)) (hi:i≤100) (ok:Ok cs) (oko:Ok old) (hl:cs.length=w) (hlo:old.length≤20) (h0':0<w) (hw:w≤20) (hb: -100≤lo∧lo≤100) (hne:rows≠fr)
  (q:∀a σ',Same [fr] σ σ'→σ' fr=some (.list (xs.set i (V (putC old lo cs))))→σ' a=some (.list [])→Q (.ref a) σ'):CS1 c.toCx r (.ref A.f_store_rows) [.ref rows,V cs,.ref cx] σ Q E t:=by
 refine u5t (by walk_at"om") ?_
 walk_at"st"
 intro d hd
 walk_at"mini"
 have d0:=u0h h0 hd
 have d1:=u0h h1 hd
 have d3:=u0h h3 hd
 walk_at"st"
 refine u0v (by walk_at"om") ?_
 walk_at"mini"
 refine⟨_,by rw [u0g d0];exact h0,?_⟩
 refine u2u ⟨(u0g d0).trans h0,?_⟩
 refine⟨by lia,?_⟩
 show u7g _ _ _ _
 walk_at"mini"
 walk_at"st"
 refine u8o 0 w (by walk_at"om") ok (by rw [hl];exact hw) h0' (by rw [hl,Nat.zero_add];exact Nat.le_refl w) rfl rfl ?_
 rw [show((0:Nat):Int)=0 from rfl,w0e hl]
 walk_at"st"
 walk_at"st"
 refine u1l (by rw [u0g d1];exact h1) (by rfl) h2 ?_
 walk_at"mini"
 refine u0l i (by rw [u0g d3];exact h3) rfl (by walk_at"om") h4 ?_
 walk_at"mini"
 refine v6f (by walk_at"om") oko ok hlo (by rw [hl];exact hw) hb ?_
 walk_at"mini"
 refine u1l (by rw [u0g d1];exact h1) (by rfl) h2 ?_
 walk_at"mini"
 have hil:i<xs.length:=(List.getElem?_eq_some_iff.mp h4).1
 refine v0z i (by rw [u0g d3];exact h3) rfl (by walk_at"om") hil ?_
 walk_at"mini"
 refine⟨(u0g hne).trans ((u0g d0).trans h0),?_⟩
 walk_at"mini"
 walk_at"st"
 refine v7t (by walk_at"om") (by rw [u0g (Ne.symm d3)];exact u0c) (by decide) fun a ns ha hp _=>?_
 have:ns=[]:=by simpa using hp
 subst this
 walk_at"mini"
 have hfa:fr≠a:=fun z=>by rw [z,u0c]at ha;cases ha
 refine q a _ ?_ ?_ u0c
 ·exact(((Same.new (F:=[fr]) hd).trans Same.put)).trans (Same.new ha)
 ·rw [u0g hfa];exact u0c
end
noncomputable def fcO (st fr d dw:Addr) (fuel depth:Int):MObj:=.inst A.c_FunctionContext [(33,.ref st),(35,.ref fr),(57,.int 0),(59,.ref d),(60,.int fuel),(61,.int depth),(62,.ref dw)]
noncomputable def excO (C:Addr) (k a d:MV):MObj:=.exc C [(4,k),(5,a),(6,d)]
section
variable {c:CX} {r:Nat} {σ:Hp} {Q E Q' E':MV→Hp→Prop} {t:Tk Q E} {t':Tk Q' E'}
theorem CS1.mono {f:Value} {args:List MV} (h:CS1 c.toCx r f args σ Q E t) (hQ:∀v σ',Q v σ'→Q' v σ') (hE:∀v σ',E v σ'→E' v σ'):CS1 c.toCx r f args σ Q' E' t':=by
 intro bn A fs own h0 t0 vs ac I rv
 refine wpAny_mono (h bn A fs own h0 t0 vs ac I rv) (fun v s' p=>?_) (fun e s' p=>?_)
 ·obtain⟨h',t',own',σ',e,I',x,k,m,rm,q⟩:=p
  exact⟨h',t',own',σ',e,I',x,k,m,rm,hQ _ _ q⟩
 ·obtain⟨h',t',own',σ',e,I',x,k,a,C,fs,e1,e2,q⟩:=p
  exact⟨h',t',own',σ',e,I',x,k,a,C,fs,e1,e2,hE _ _ q⟩
theorem w5g {x:Addr} {C:Addr} {k:MV} (hr:1≤r) (hC:C=A.c_LimitReached∨C=A.c_DesignError) (hx:σ x=none) (q:Q (.ref x) (σ.put x (excO C k (.int (-1)) (.sym 122)))):
  u0s c.toCx r (.ref A.f_GateloomError___init__) [.ref x,k] (σ.put x (.exc C [])) (fun v σ1=>v=.none∧Q (.ref x) σ1) E:=by
 refine u2x (by walk_at"om") ?_
 rcases hC with rfl|rfl<;>
 ·walk_at"st"
  refine w2z u0c (by rfl) (Nat.le_of_ble_eq_true rfl) ?_
  rw [u2h]
  walk_at"st"
  refine w2z u0c (by rfl) (Nat.le_of_ble_eq_true rfl) ?_
  rw [u2h]
  walk_at"st"
  refine w2z u0c (by rfl) (Nat.le_of_ble_eq_true rfl) ?_
  rw [u2h]
  walk_at"mini"
  exact q
theorem x1w {k:MV} (hr:2≤r) (q:∀x,σ x=none→Q (.ref x) (σ.put x (excO A.c_LimitReached k (.int (-1)) (.sym 122)))):CS1 c.toCx r (.ref A.c_LimitReached) [k] σ Q E t:=
 u7w (by walk_at"om") (Nat.le_of_ble_eq_true rfl) fun x hx=>w5g (by walk_at"om") (.inl rfl) hx (q x hx)
variable {st fr d dw cx:Addr} {fuel depth:Int}
theorem x8w (hr:3≤r) (h:σ cx=some (fcO st fr d dw fuel depth)) (q0:fuel≤0→∀x,σ x=none→E (.ref x) (σ.put x (excO A.c_LimitReached (.sym 70) (.int (-1)) (.sym 122)))) (q1:0<fuel→Q .none (σ.put cx (fcO st fr d dw (fuel- 1) depth))):
  CS1 c.toCx r (.ref A.f_FunctionContext_burn) [.ref cx] σ Q E t:=by
 refine u4c (by walk_at"om") ?_
 walk_at"st"
 refine u1l h (by rfl) (by rfl) ?_
 walk_at"mini"
 by_cases hf:fuel≤0
 ·rw [decide_eq_true hf]
  walk_at"mini"
  walk_at"st"
  refine⟨by lia,x1w (by walk_at"om") fun x hx=>?_⟩
  exact⟨x,_,_,rfl,u0c,by rfl,q0 hf x hx⟩
 ·rw [decide_eq_false hf]
  walk_at"mini"
  walk_at"st"
  refine u1l h (by rfl) (by rfl) ?_
  walk_at"mini"
  refine u2q h (by rfl) (Nat.le_of_ble_eq_true rfl) ?_
  walk_at"mini"
  exact q1 (by walk_at"om")
theorem w4m {e:MV} (hr:3≤r) (q:CS1 c.toCx (r- 1) (.ref A.f_evaluate) [e,.ref cx] σ (fun v σ1=>∃cs,v=V cs∧Ok cs∧cs.length≤20∧Q (.bool (decide (u2z cs=1))) σ1) E {}):CS1 c.toCx r (.ref A.f_FunctionContext_is_true) [.ref cx,e] σ Q E t:=by
 refine u3d (by walk_at"om") ?_
 walk_at"st"
 refine CS1.mono q (fun v σ1 z=>?_) (fun _ _ z=>z)
 refine u4i z fun cs hv ok hl q=>?_
 subst hv
 refine v5n (by walk_at"om") ok hl ?_
 walk_at"mini"
 rw [show decide ((u2z cs:Int)=1)=decide (u2z cs=1)by rw [decide_eq_decide];lia]
 exact q
theorem w3e {x:MV} (hr:1≤r) (q:Q .none σ):CS1 c.toCx r (.ref A.f_run_statement) [.none,x] σ Q E t:=by
 refine u4a (by walk_at"om") ?_
 repeat walk_at"st"
 exact q
end
section
variable {c:CX} {r:Nat} {σ:Hp} {Q E:MV→Hp→Prop} {t:Tk Q E}
variable {st fr d dw cx:Addr} {fuel depth:Int} {rest:List MV}
def v8x (c:CX) (r:Nat) (cx:Addr) (sc:Int) (Q E:MV→Hp→Prop):List MV→Hp→Prop
 |[],σ=>Q .none σ
 |s::ss,σ=>CS1 c.toCx r (.ref A.f_run_statement) [s,.ref cx] σ (fun v σ1=>(v=.none∧v8x c r cx sc Q E ss σ1)∨∃k:Int,v=.int k∧Q (if k=sc then .none else .int k) σ1) E {}
theorem u8s {x:MV} {ss:List MV} {sc:Int} (hr:2≤r) (q:v8x c (r- 1) cx sc Q E ss σ):CS1 c.toCx r (.ref A.f_run_block) [.tup [x,.tup ss,.int sc],.ref cx] σ Q E t:=by
 refine v2s (by walk_at"om") ?_
 walk_at"st"
 refine u0v (by walk_at"om") ?_
 walk_at"mini"
 refine⟨fun rest l s=>∃l2 l3,l=[some (.tup [x,.tup ss,.int sc]),some (.ref cx),l2,l3]∧v8x c (r- 1) cx sc Q E rest s,⟨_,_,rfl,q⟩,fun _ _ _ _=>trivial,fun y rest l s z=>?_,fun l s z=>?_⟩
 ·refine u1m z fun l2 l3 zz501 q=>?_
  subst zz501
  show setP _ _ _ _
  walk_at"mini"
  walk_at"st"
  refine CS1.mono q (fun v σ1 hv=>?_) (fun _ _ z=>z)
  refine Or.elim hv (fun zz504=>?_) (fun zz505=>?_)
  ·refine u0a zz504 fun zz3001 q=>?_
   subst zz3001
   walk_at"mini"
   walk_at"st"
   exact⟨_,_,rfl,q⟩
  ·refine u0d zz505 fun k zz3002 q=>?_
   subst zz3002
   walk_at"mini"
   walk_at"st"
   walk_at"st"
   by_cases hk:k=sc
   ·rw [decide_eq_true hk]
    rw [if_pos hk]at q
    walk_at"mini"
    repeat walk_at"st"
    exact q
   ·rw [decide_eq_false hk]
    rw [if_neg hk]at q
    walk_at"mini"
    repeat walk_at"st"
    exact q
 ·refine u1m z fun l2 l3 zz502 q=>?_
  subst zz502
  walk_at"mini"
  repeat walk_at"st"
  exact q
def w1k (cx:Addr) (i:Nat) (lo:Int) (w:Nat) (Q:MV→Hp→Prop) (v:MV) (σ:Hp):Prop:=
 ∃cs old fr fs xs,v=V cs∧Ok cs∧Ok old∧cs.length=w∧old.length≤20∧σ cx=some (.inst A.c_FunctionContext fs)∧fs.lookup 35=some (.ref fr)∧σ fr=some (.list xs)∧xs[i]?=some (V old)∧
  ∀σ',Same [fr] σ σ'→σ' fr=some (.list (xs.set i (V (putC old lo cs))))→Q .none σ'
theorem u6n {a tg e:MV} {i w:Nat} {lo:Int} (hr:8≤r) (hi:i≤100) (h0:0<w) (hw:w≤20) (hlo: -50≤lo∧lo≤50) (q:CS1 c.toCx (r- 1) (.ref A.f_evaluate) [e,.ref cx] σ (w1k cx i lo w Q) E {}):
  CS1 c.toCx r (.ref A.f_run_set) [.tup [a,.tup [tg,.int w,.tup [.tup [.sym 34,.int w,.int i,.none,.tup [.sym 5,.int lo]]]],e,.none],.ref cx] σ Q E t:=by
 refine v6z (by walk_at"om") ?_
 walk_at"st"
 walk_at"st"
 refine CS1.mono q (fun v σ1 hv=>?_) (fun _ _ z=>z)
 obtain⟨cs,old,fr,fs,xs,rfl,ok,oko,hl,hlold,h1,h2,h3,h4,q⟩:=hv
 unfold V at h4
 walk_at"st"
 refine u0v (by walk_at"om") ?_
 walk_at"mini"
 refine w3h (hw:=old.length) (by walk_at"om") (fun σ' Q' E' t' hs q'=>v4e (by walk_at"om") (hs _ _ h1 (by simp)) h2 (hs _ _ h3 (by simp)) h4 hi q') fun a σ2 ha hs hrow=>?_
 walk_at"mini"
 have g1:=hs _ _ h1 (by simp)
 have g3:=hs _ _ h3 (by simp)
 by_cases hout:lo+w≤0∨(old.length:Int)≤lo
 ·rw [if_pos hout]at hrow
  refine v5q (by walk_at"om") hrow fun b σ3 hs3 hb=>?_
  walk_at"mini"
  refine⟨[],hb,u2u ⟨hb,?_⟩⟩
  walk_at"mini"
  repeat walk_at"st"
  refine q σ3 ((hs.mono (by simp)).trans (hs3.mono (by simp))) ?_
  have e1:putC old lo cs=old:=by
   refine u2m u0y fun j hj=>?_
   rw [u0y]at hj
   unfold putC
   rw [u2i,if_pos hj,if_neg]
   rw [hl];lia
  rw [e1]
  have e2:xs.set i (V old)=xs:=by
   refine List.ext_getElem? fun j=>?_
   rw [List.getElem?_set]
   by_cases hj:i=j
   ·subst hj;rw [if_pos rfl,if_pos (List.getElem?_eq_some_iff.mp h4).1];exact h4.symm
   ·rw [if_neg hj]
  rw [e2]
  exact hs3 _ _ g3 (by simp)
 ·rw [if_neg hout]at hrow
  have hrw:((w:Int)- w)=0:=by lia
  rw [hrw]at hrow
  have hne:a≠fr:=fun z=>by rw [z,h3]at ha;cases ha
  refine u7v (by walk_at"om") hrow g1 h2 g3 h4 hi ok oko hl hlold h0 hw (by walk_at"om") hne fun b σ3 hs3 h3' hb=>?_
  walk_at"mini"
  refine⟨[],hb,u2u ⟨hb,?_⟩⟩
  walk_at"mini"
  repeat walk_at"st"
  exact q σ3 ((hs.mono (by simp)).trans hs3) h3'
end
noncomputable def numL (ns:List Nat):List MV:=ns.map fun(n:Nat)=>MV.int (n:Int)
theorem u5f (a b:List Nat):numL (a++b)=numL a++numL b:=by simp [numL]
theorem u0n (a:List Nat):(numL a).length=a.length:=by simp [numL]
theorem w8m (m k:Nat) (hk:0<k):(m:Int).fmod (k:Int)=((m % k:Nat):Int):=by
 rw [Int.fmod_eq_emod_of_nonneg _ (by walk_at"om")];simp
theorem w0x (m k:Nat):(m:Int).fdiv (k:Int)=((m / k:Nat):Int):=by
 rw [Int.fdiv_eq_ediv_of_nonneg _ (by walk_at"om")];simp
theorem w8n {m:Nat}:(m:Int).fmod 2=((m % 2:Nat):Int):=w8m m 2 (by decide)
theorem y8d {m:Nat}:(m:Int).fmod 4=((m % 4:Nat):Int):=w8m m 4 (by decide)
theorem x7q {m:Nat}:(m:Int).fmod 1024=((m % 1024:Nat):Int):=w8m m 1024 (by decide)
theorem y8j {m:Nat}:(m:Int).fdiv 2=((m / 2:Nat):Int):=w0x m 2
theorem y8i {m:Nat}:(m:Int).fdiv 4=((m / 4:Nat):Int):=w0x m 4
theorem y8h {m:Nat}:(m:Int).fdiv 5=((m / 5:Nat):Int):=w0x m 5
theorem x7y {m:Nat}:(m:Int).fdiv 1024=((m / 1024:Nat):Int):=w0x m 1024
def u1x (σ:Hp) (a:Addr):Prop:=∃ns:List Nat,(∀n ∈ ns,n<1024)∧ns.length≤160∧σ a=some (.list (numL ns))
section
variable {c:CX} {r:Nat} {σ:Hp} {Q E:MV→Hp→Prop} {t:Tk Q E}
theorem x1x {a:Addr} {xs:List MV} (hs:σ a=some (.list xs)) (hl:xs.length≤1000) (q:Q (.int xs.length) σ):CS1 c.toCx r (.builtin "len") [.ref a] σ Q E t:=w7w hs (by unfold u0t;lia) q
theorem y9p {a:Addr} {xs:List MV} {x:MV} (hs:σ a=some (.list xs)) (hl:xs.length≤10000) (q:Q .none (σ.put a (.list (xs++[x])))):CS1 c.toCx r (.builtin "list.append") [.ref a,x] σ Q E t:=u9r hs (by unfold u0t;lia) q
theorem y0a {a:Addr} {xs:List MV} (hs:σ a=some (.list xs)) (hl:xs.length≤10000) (q:Q .none (σ.put a (.list xs.reverse))):CS1 c.toCx r (.builtin "list.reverse") [.ref a] σ Q E t:=v3r hs (by unfold u0t;lia) q
theorem v7k {a:Addr} {ns:List Nat} {m:Nat} (hs:σ a=some (.list (numL ns))) (hl:ns.length≤10000) (q:Q .none (σ.put a (.list (numL (ns++[m]))))):CS1 c.toCx r (.builtin "list.append") [.ref a,.int (m:Int)] σ Q E t:=
 y9p hs (by rw [u0n];exact hl) (by rw [u5f]at q;exact q)
theorem u4o (ns:List Nat):u1d (numL ns)=true:=by
 unfold u1d
 induction ns with
 |nil=>rfl
 |cons n r ih=>exact ih
theorem w9r (ns:List Nat):beqs (numL ns) []=ns.isEmpty:=by
 cases ns<;>rfl
theorem x0i {row:Addr} (hr:1≤r) (h:u1x σ row) (q:∀(n:Nat) σ',n<1024→Same [row] σ σ'→u1x σ' row→Q (.int (n:Int)) σ'):CS1 c.toCx r (.ref A.f__law_next) [.ref row] σ Q E t:=by
 refine u1e h fun ns hb hl hs=>?_
 refine v2x (by walk_at"om") ?_
 walk_at"st"
 intro a ha
 have hne:=u0h hs ha
 refine⟨numL ns,[],(u0g hne).trans hs,u0c,⟨u4o ns,rfl⟩,?_⟩
 rw [w9r]
 have s1:Same [row] σ (σ.put a (.list [])):=Same.new ha
 refine Or.elim (List.eq_nil_or_concat ns) (fun zz501=>?_) (fun zz502=>?_)
 ·subst zz501
  walk_at"mini"
  simp only [List.isEmpty_nil,Bool.not_true]
  walk_at"mini"
  exact q 0 _ (by decide) s1 ⟨[],by simp,by simp,(u0g hne).trans hs⟩
 ·refine u1j zz502 fun L b zz3001=>?_
  subst zz3001
  have e:(L++[b]).isEmpty=false:=by simp
  rw [List.concat_eq_append]at*
  rw [e]
  walk_at"mini"
  refine w7s ((u0g hne).trans hs) ?_
  walk_at"mini"
  have hs2:(σ.put a (.list [])) row=some (.list (numL L++[MV.int (b:Int)])):=by rw [u0g hne,hs,u5f];rfl
  refine v8a hs2 (by rw [u0n];unfold u0t;simp at hl;lia) ?_
  refine q b _ (hb b (by simp)) (s1.trans Same.put) ⟨L,fun n hn=>hb n (by simp [hn]),by simp at hl;lia,u0c⟩
theorem u1w {F:List Addr} {σ':Hp} {row:Addr} (h:u1x σ row) (s:Same F σ σ') (hn:row ∉ F):u1x σ' row:=by
 refine u1e h fun ns a b e=>?_
 exact⟨ns,a,b,s _ _ e hn⟩
theorem w6j {row:Addr} {w:Int} (wd:Nat) (hr:3≤r) (hw:w=wd) (hwd:wd≤20) (h:u1x σ row)
  (q:∀a (cs:List Nat) σ',σ a=none→cs.length=wd→Ok cs→Same [row] σ σ'→u1x σ' row→σ' a=some (.list (numL cs))→Q (.ref a) σ'):CS1 c.toCx r (.ref A.f__law_bits) [.ref row,.int w] σ Q E t:=by
 subst hw
 refine v3a (by walk_at"om") ?_
 walk_at"st"
 intro a ha
 walk_at"mini"
 have hra:row≠a:=fun z=>by refine u1e h fun _ _ _ e=>?_;rw [z,ha]at e;cases e
 walk_at"st"
 refine u0v (by walk_at"om") ?_
 walk_at"mini"
 refine⟨⟨by decide,by decide⟩,?_⟩
 rw [show((wd:Int)+4)=((wd+4:Nat):Int)by lia,y8h]
 have hT:(wd+4)/ 5≤5:=by lia
 refine⟨⟨by lia,by lia⟩,?_⟩
 have hlen:((List.range (((wd+4)/ 5:Nat):Int).toNat).map fun(i:Nat)=>MV.int (i:Int)).length=(wd+4)/ 5:=by simp;lia
 refine u3a (fun i l s=>∃bs l3 l4 l5,l=[some (.ref row),some (.int wd),some (.ref a),l3,l4,l5]∧Same [row] σ s∧u1x s row∧s a=some (.list (numL bs))∧Ok bs∧bs.length=5*i) ⟨[],_,_,_,rfl,Same.new ha,u1w h (Same.new (F:=[]) ha) (by simp),u0c,(fun _ h=>by cases h),rfl⟩ (fun _ _ _ _=>trivial) ?_ ?_
 ·intro i x l s hx zz2003
  refine u2o zz2003 fun bs l3 l4 l5 zz3002 hs hrow hsa hok hbl=>?_
  subst zz3002
  have hi:i<(wd+4)/ 5:=by have:=(List.getElem?_eq_some_iff.mp hx).1;rw [hlen]at this;exact this
  show setP _ _ _ _
  walk_at"mini"
  walk_at"st"
  refine x0i (by walk_at"om") hrow fun n s1 hn hs1 hrow1=>?_
  walk_at"mini"
  walk_at"st"
  refine u0v (by walk_at"om") ?_
  walk_at"mini"
  refine⟨⟨by decide,by decide⟩,?_⟩
  have hsa1:s1 a=some (.list (numL bs)):=hs1 _ _ hsa (by simpa using Ne.symm hra)
  refine u3a (fun j l s'=>∃bs' l3 l5 m,l=[some (.ref row),some (.int wd),some (.ref a),l3,some (.int ((m:Nat):Int)),l5]∧Same [row] σ s'∧u1x s' row∧s' a=some (.list (numL bs'))∧Ok bs'∧bs'.length=5*i+j) ⟨bs,_,_,n,rfl,hs.trans hs1,hrow1,hsa1,hok,hbl⟩ (fun _ _ _ _=>trivial) ?_ ?_
  ·intro j y l s2 hy zz2004
   refine u2o zz2004 fun bs' k3 k5 m zz3003 hs2 hrow2 hsa2 hok2 hbl2=>?_
   subst zz3003
   have hj:j<5:=by have:=(List.getElem?_eq_some_iff.mp hy).1;simpa using this
   show setP _ _ _ _
   walk_at"mini"
   walk_at"st"
   refine u6q hsa2 ?_
   walk_at"mini"
   rw [y8d]
   refine⟨by decide,?_⟩
   refine v7k hsa2 (by walk_at"om") ?_
   walk_at"mini"
   walk_at"st"
   refine⟨⟨by decide,by decide⟩,?_⟩
   rw [y8i]
   walk_at"mini"
   refine⟨bs'++[m % 4],_,_,m / 4,rfl,?_,?_,u0c,?_,by simp;lia⟩
   ·intro b o e hb
    have:=hs2 _ _ e hb
    rw [u0g (fun z=>by rw [z,ha]at e;cases e)];exact this
   ·refine u1e hrow2 fun ns a1 a2 a3=>?_
    exact⟨ns,a1,a2,(u0g hra).trans a3⟩
   ·intro x hx
    refine Or.elim (List.mem_append.mp hx) (fun z=>?_) (fun z=>?_)
    ·exact hok2 x z
    ·have:x=m % 4:=by simpa using z
     lia
  ·intro l s2 zz2005
   refine u2o zz2005 fun bs' k3 k5 m zz3004 hs2 hrow2 hsa2 hok2 hbl2=>?_
   subst zz3004
   simp only [List.length_map,List.length_range]at hbl2
   walk_at"mini"
   exact⟨bs',_,_,_,rfl,hs2,hrow2,hsa2,hok2,by rw [hbl2];simp;lia⟩
 ·intro l s zz2006
  refine u2o zz2006 fun bs l3 l4 l5 zz3005 hs hrow hsa hok hbl=>?_
  subst zz3005
  rw [hlen]at hbl
  walk_at"mini"
  walk_at"st"
  refine x4t hsa (by rw [u0n];unfold u0t;lia) (by walk_at"om") fun b hb=>?_
  rw [Int.toNat_natCast]
  have hbr:row≠b:=fun z=>by refine u1e hrow fun _ _ _ e=>?_;rw [z,hb]at e;cases e
  have:(numL bs).take wd=numL (bs.take wd):=by simp [numL,List.map_take]
  rw [this]
  refine q b (bs.take wd) _ ?_ (by rw [List.length_take];lia) (fun x hx=>hok x (List.mem_of_mem_take hx)) (fun b' o e hb'=>?_) ?_ u0c
  ·cases e:σ b with
   |none=>rfl
   |some o=>exact absurd (hs _ _ e (by simpa using Ne.symm hbr)) (by rw [hb];simp)
  ·have:=hs _ _ e hb'
   rw [u0g (u0h this hb)];exact this
  ·refine u1e hrow fun ns a1 a2 a3=>?_
   exact⟨ns,a1,a2,(u0g hbr).trans a3⟩
end
theorem v8h (cs:List Nat):∀i,i<cs.length→lo2 (cs.take (i+1))=lo2 (cs.take i)+at0 cs i % 2*2^i:=by
 induction cs with
 |nil=>intro i h;simp at h
 |cons c r ih=>
  intro i h
  cases i with
  |zero=>simp [lo2,u5h]
  |succ i=>
   rw [List.take_succ_cons,List.take_succ_cons,lo2,lo2,ih i (by simpa using h),u5i,Nat.pow_succ,Nat.mul_add]
   have:at0 r i % 2*(2^i*2)=2*(at0 r i % 2*2^i):=by rw [Nat.mul_comm (2^i) 2,←Nat.mul_assoc,Nat.mul_comm _ 2,Nat.mul_assoc]
   lia
theorem w8h (cs:List Nat):∀i,i<cs.length→hi2 (cs.take (i+1))=hi2 (cs.take i)+at0 cs i / 2*2^i:=by
 induction cs with
 |nil=>intro i h;simp at h
 |cons c r ih=>
  intro i h
  cases i with
  |zero=>simp [hi2,u5h]
  |succ i=>
   rw [List.take_succ_cons,List.take_succ_cons,hi2,hi2,ih i (by simpa using h),u5i,Nat.pow_succ,Nat.mul_add]
   have:at0 r i / 2*(2^i*2)=2*(at0 r i / 2*2^i):=by rw [Nat.mul_comm (2^i) 2,←Nat.mul_assoc,Nat.mul_comm _ 2,Nat.mul_assoc]
   lia
section
variable {c:CX} {r:Nat} {σ:Hp} {Q E:MV→Hp→Prop} {t:Tk Q E}
theorem w4i {a:Addr} {ns:List Nat} (hs:σ a=some (.list (numL ns))) (hl:ns.length≤1000) (q:Q (.int (ns.length:Int)) σ):CS1 c.toCx r (.builtin "len") [.ref a] σ Q E t:=by
 refine x1x hs (by rw [u0n];exact hl) ?_
 rw [u0n];exact q
theorem w4k {a:Addr} {ns:List Nat} {k:Int} (i:Nat) (hs:σ a=some (.list (numL ns))) (hk:k=i) (hi:i<ns.length) (h6:i≤100000) (q:Q (.int (at0 ns i:Int)) σ):u4h (.ref a) (.int k) σ Q:=by
 refine u0l i hs hk (by walk_at"om") (v:=.int (at0 ns i:Int)) ?_ q
 unfold numL at0
 rw [List.getElem?_map,List.getElem?_eq_getElem hi];rfl
theorem v8d {a:Addr} {cs:List Nat} (hr:2≤r) (hs:σ a=some (.list (numL cs))) (h:Ok cs) (hl:cs.length≤20) (q:Q (V cs) σ):CS1 c.toCx r (.ref A.f__law_made) [.ref a] σ Q E t:=by
 refine v2y (by walk_at"om") ?_
 walk_at"st"
 walk_at"st"
 walk_at"st"
 refine u0v (by walk_at"om") ?_
 walk_at"mini"
 refine w4i hs (by walk_at"om") ?_
 walk_at"mini"
 refine⟨⟨by lia,by lia⟩,?_⟩
 have hlen:((List.range (cs.length:Int).toNat).map fun(i:Nat)=>MV.int (i:Int)).length=cs.length:=by simp
 refine u3a (fun i l s=>∃l3,l=[some (.ref a),some (.int (lo2 (cs.take i):Int)),some (.int (hi2 (cs.take i):Int)),l3]∧s=σ) ⟨_,rfl,rfl⟩ (fun _ _ _ _=>trivial) ?_ ?_
 ·intro i x l s hx zz2007
  refine u0d zz2007 fun l3 zz3001 zz3002=>?_
  subst zz3001
  subst zz3002
  have hi:i<cs.length:=by have:=(List.getElem?_eq_some_iff.mp hx).1;rw [hlen]at this;exact this
  have hxi:x=.int (i:Int):=by
   rw [List.getElem?_map,Int.toNat_natCast,List.getElem?_range hi]at hx
   exact(Option.some.inj hx).symm
  subst hxi
  have h4:=u1a h i
  have hp:(2:Int)^(i:Int).toNat=((2^i:Nat):Int):=by simp
  have hp64:(2^i:Nat)<2^60:=Nat.pow_lt_pow_right (by decide) (by walk_at"om")
  show setP _ _ _ _
  walk_at"mini"
  walk_at"st"
  refine w4k i hs rfl hi (by walk_at"om") ?_
  walk_at"mini"
  rw [w8n]
  refine⟨by decide,⟨by decide,by lia,by lia⟩,?_⟩
  rw [hp]
  refine⟨⟨fits (by walk_at"om"),fits hp64⟩,?_⟩
  walk_at"mini"
  walk_at"st"
  refine w4k i hs rfl hi (by walk_at"om") ?_
  walk_at"mini"
  rw [y8j]
  refine⟨⟨by decide,by decide⟩,⟨by decide,by lia,by lia⟩,?_⟩
  rw [hp]
  refine⟨⟨fits (by walk_at"om"),fits hp64⟩,?_⟩
  walk_at"mini"
  refine⟨some (.int (i:Int)),?_,trivial⟩
  rw [v8h cs i hi,w8h cs i hi]
  simp
 ·intro l s zz2008
  refine u0d zz2008 fun l3 zz3003 zz3004=>?_
  subst zz3003
  subst zz3004
  rw [hlen,List.take_length]
  walk_at"mini"
  walk_at"st"
  refine w4i hs (by walk_at"om") ?_
  walk_at"mini"
  exact q
theorem x9y {scr:Addr} {ns:List Int} (hr:3≤r) (h:σ scr=some (.frz ns)) (hn:ns.length≤1000) (q:∀a σ',σ a=none→Same [] σ σ'→u1x σ' a→Q (.ref a) σ'):CS1 c.toCx r (.ref A.f__law_row) [.ref scr] σ Q E t:=by
 refine v5e (by walk_at"om") ?_
 walk_at"st"
 intro a ha
 walk_at"mini"
 have hsa:=u0h h ha
 walk_at"st"
 refine u0v (by walk_at"om") ?_
 walk_at"mini"
 refine x4v ((u0g hsa).trans h) (by unfold u0t;lia) (by decide) fun b hb=>?_
 walk_at"mini"
 refine⟨_,u0c,?_⟩
 have hba:a≠b:=fun z=>by rw [←z,u0c]at hb;cases hb
 have hσb:σ b=none:=by
  cases e:σ b with
  |none=>rfl
  |some o=>rw [u0g (fun z=>hba z.symm),e]at hb;cases hb
 generalize hX:List.take (40:Int).toNat (ns.map MV.int)=X
 have hXl:X.length≤40:=by rw [←hX,List.length_take];exact Nat.min_le_left _ _
 have hXi:∀x ∈ X,∃k:Int,x=.int k:=fun x hx=>by
  rw [←hX]at hx
  refine u0d (List.mem_map.mp (List.mem_of_mem_take hx)) fun k _ e=>?_
  exact⟨k,e.symm⟩
 refine u3a (fun i l s=>∃ms l2 l3 l4,l=[some (.ref scr),some (.ref a),l2,l3,l4]∧Same [] σ s∧s b=some (.list X)∧s a=some (.list (numL ms))∧(∀m ∈ ms,m<1024)∧ms.length≤31*i) ⟨[],_,_,_,rfl,(Same.new ha).trans (Same.new hb),u0c,(u0g hba).trans u0c,(fun _ h=>by cases h),by simp⟩
  (fun _ _ _ z=>by refine x8e z fun _ _ _ _ _ _ h _=>?_;exact h) ?_ ?_
 ·intro i x l s hx zz2009
  refine u2o zz2009 fun ms l2 l3 l4 zz3005 hs hsb hsa' hm hml=>?_
  subst zz3005
  have hi:i<40:=by have:=(List.getElem?_eq_some_iff.mp hx).1;lia
  refine u0i (hXi x (List.mem_of_getElem? hx)) fun k zz501=>?_
  subst zz501
  show setP _ _ _ _
  walk_at"mini"
  walk_at"st"
  have num:∀(m:Nat) (QS:Out→Loc→Hp→Prop) (ES:MV→Loc→Hp→Prop),
    (∀ms' l3 l4 s',Same [] σ s'→s' b=some (.list X)→s' a=some (.list (numL ms'))→(∀m ∈ ms',m<1024)→ms'.length≤31*(i+1)→QS .next [some (.ref scr),some (.ref a),some (.int k),l3,l4] s')→
    swps Tb (CSf c.toCx) (r- 1) (hide M.z2m) [some (.ref scr),some (.ref a),some (.int k),some (.int ((m:Nat):Int)),l4] s QS ES:=by
   intro m QS ES fin
   walk_at"st"
   refine u6q hsa' ?_
   walk_at"mini"
   rw [x7q]
   refine⟨by decide,v7k hsa' (by walk_at"om") ?_⟩
   walk_at"mini"
   walk_at"st"
   refine⟨⟨by decide,by decide⟩,?_⟩
   rw [x7y]
   walk_at"mini"
   walk_at"st"
   refine u0v (by walk_at"om") ?_
   walk_at"mini"
   refine⟨⟨by decide,by decide⟩,?_⟩
   refine u3a (fun j l s'=>∃ms' l4 m',l=[some (.ref scr),some (.ref a),some (.int k),some (.int ((m':Nat):Int)),l4]∧Same [] σ s'∧s' b=some (.list X)∧s' a=some (.list (numL ms'))∧(∀m ∈ ms',m<1024)∧ms'.length≤31*i+1+j)
    ⟨ms++[m % 1024],_,m / 1024,rfl,?_,(u0g (Ne.symm hba)).trans hsb,u0c,?_,by simp;lia⟩ (fun _ _ _ _=>trivial) ?_ ?_
   ·intro b' o e hb'
    have:=hs _ _ e hb'
    rw [u0g (u0h e ha)];exact this
   ·intro y hy
    refine Or.elim (List.mem_append.mp hy) (fun z=>?_) (fun z=>?_)
    ·exact hm y z
    ·have:y=m % 1024:=by simpa using z
     lia
   ·intro j y l s2 hy zz2010
    refine w5k zz2010 fun ms' l4 m' zz3006 hs2 hsb2 hsa2 hm2 hml2=>?_
    subst zz3006
    have hj:j<30:=by have:=(List.getElem?_eq_some_iff.mp hy).1;simpa using this
    show setP _ _ _ _
    walk_at"mini"
    walk_at"st"
    by_cases h0:0<(m':Int)
    ·rw [decide_eq_true h0]
     walk_at"mini"
     walk_at"st"
     refine u6q hsa2 ?_
     walk_at"mini"
     rw [x7q]
     refine⟨by decide,v7k hsa2 (by walk_at"om") ?_⟩
     walk_at"mini"
     walk_at"st"
     refine⟨⟨by decide,by decide⟩,?_⟩
     rw [x7y]
     walk_at"mini"
     refine⟨ms'++[m' % 1024],_,m' / 1024,rfl,?_,(u0g (Ne.symm hba)).trans hsb2,u0c,?_,by simp;lia⟩
     ·intro b' o e hb'
      have:=hs2 _ _ e hb'
      rw [u0g (u0h e ha)];exact this
     ·intro y hy
      refine Or.elim (List.mem_append.mp hy) (fun z=>?_) (fun z=>?_)
      ·exact hm2 y z
      ·have:y=m' % 1024:=by simpa using z
       lia
    ·rw [decide_eq_false h0]
     walk_at"mini"
     exact⟨ms',_,m',rfl,hs2,hsb2,hsa2,hm2,by lia⟩
   ·intro l s2 zz2011
    refine w5k zz2011 fun ms' l4 m' zz3007 hs2 hsb2 hsa2 hm2 hml2=>?_
    subst zz3007
    simp only [List.length_map,List.length_range]at hml2
    exact fin ms' _ _ s2 hs2 hsb2 hsa2 hm2 (by have:(30:Int).toNat=30:=rfl;lia)
  by_cases hk:0≤k
  ·rw [decide_eq_true hk]
   walk_at"mini"
   refine u0i (Int.eq_ofNat_of_zero_le hk) fun m zz502=>?_
   subst zz502
   refine num m _ _ fun ms' l3 l4 s' a1 a2 a3 a4 a5=>?_
   walk_at"mini"
   exact⟨ms',_,_,_,rfl,a1,a2,a3,a4,a5⟩
  ·rw [decide_eq_false hk]
   walk_at"mini"
   obtain⟨m,hm'⟩:∃m:Nat,7- k=m:=⟨(7- k).toNat,by lia⟩
   rw [hm']
   refine num m _ _ fun ms' l3 l4 s' a1 a2 a3 a4 a5=>?_
   walk_at"mini"
   exact⟨ms',_,_,_,rfl,a1,a2,a3,a4,a5⟩
 ·intro l s zz2012
  refine u2o zz2012 fun ms l2 l3 l4 zz3008 hs hsb hsa' hm hml=>?_
  subst zz3008
  walk_at"mini"
  walk_at"st"
  refine x4t hsa' (by rw [u0n];unfold u0t;lia) (by decide) fun d hd=>?_
  walk_at"mini"
  walk_at"st"
  refine w7r u0c ?_
  walk_at"mini"
  refine y0a u0c (by rw [List.length_take,u0n];lia) ?_
  rw [u2h]
  walk_at"mini"
  repeat walk_at"st"
  have hσd:σ d=none:=by
   cases e:σ d with
   |none=>rfl
   |some o=>have:=hs _ _ e (by simp);rw [hd]at this;cases this
  refine q d _ hσd (hs.trans (Same.new hd)) ⟨(ms.take 160).reverse,fun n hn=>hm n (List.mem_of_mem_take (List.mem_reverse.mp hn)),by rw [List.length_reverse,List.length_take];exact Nat.min_le_left _ _,?_⟩
  rw [u0c]
  simp [numL,List.map_take]
end
section
variable {c:CX} {r:Nat} {σ:Hp} {Q E:MV→Hp→Prop} {t:Tk Q E}
noncomputable def subC (u v:List Nat):List Nat:=if u0k u && u0k v then u5n u.length (lo2 u- lo2 v)else gen u.length fun _=>3
theorem x9w {u v:List Nat} (hr:4≤r) (hu:Ok u) (hv:Ok v) (hl:u.length≤20) (q:Q (V (subC u v)) σ):CS1 c.toCx r (.ref A.f_sub) [V u,V v] σ Q E t:=by
 refine x3p (by walk_at"om") ?_
 walk_at"st"
 have no:∀b:Bool,(b=false→Q (V (gen u.length fun _=>3)) σ)→b=false→swps Tb (CSf c.toCx) (r- 1) M.z2w [some (V u),some (V v)] σ (seqQ (fun l σ1=>swps Tb (CSf c.toCx) (r- 1) M.z2x l σ1 (retQ Q) fun x _ σ1=>E x σ1) (retQ Q)) (fun x _ σ1=>E x σ1):=fun b k hb=>by
  unfold V
  walk_at"st"
  refine u9s u.length (by walk_at"om") rfl (by walk_at"om") ?_
  walk_at"mini"
  exact k hb
 refine u5e (by walk_at"om") hu ?_
 walk_at"mini"
 cases ku:u0k u with
 |false=>
  walk_at"mini"
  exact no false (fun _=>by unfold subC at q;rw [ku]at q;exact q) rfl
 |true=>
  walk_at"mini"
  refine u5e (by walk_at"om") hv ?_
  walk_at"mini"
  cases kv:u0k v with
  |false=>
   walk_at"mini"
   exact no false (fun _=>by unfold subC at q;rw [ku,kv]at q;exact q) rfl
  |true=>
   walk_at"mini"
   unfold V
   walk_at"st"
   refine v1h u.length (by walk_at"om") rfl (by walk_at"om") ?_
   walk_at"mini"
   unfold subC at q;rw [ku,kv]at q;exact q
theorem x2k {u:List Nat} (hu:Ok u):decide ((hi2 u:Int)=0)=u0k u:=by
 cases k:u0k u with
 |true=>rw [decide_eq_true];have:=(u3x hu).mpr k;lia
 |false=>rw [decide_eq_false];intro z;have:=(u3x hu).mp (by walk_at"om");rw [k]at this;cases this
noncomputable def numC (u:List Nat) (sg:Bool):MV:=if u0k u then .int (if sg && decide (lo2 u>>>(u.length- 1)=1)then lo2 u- 2^u.length else lo2 u)else .none
theorem v1n {u:List Nat} {sg:Bool} (hr:2≤r) (hu:Ok u) (h0:0<u.length) (hl:u.length≤20) (q:Q (numC u sg) σ):CS1 c.toCx r (.ref A.f_to_int) [V u,.bool sg] σ Q E t:=by
 refine w1d (by walk_at"om") ?_
 unfold V
 walk_at"st"
 refine⟨by walk_at"om",?_⟩
 walk_at"mini"
 walk_at"st"
 rw [x2k hu]
 unfold numC at q
 cases k:u0k u with
 |false=>
  rw [k]at q
  walk_at"mini"
  repeat walk_at"st"
  exact q
 |true=>
  rw [k]at q
  walk_at"mini"
  walk_at"st"
  cases sg with
  |false=>
   walk_at"mini"
   repeat walk_at"st"
   exact q
  |true=>
   walk_at"mini"
   have e1:((u.length:Int)- 1)=((u.length- 1:Nat):Int):=by lia
   rw [e1,w2y]
   refine⟨by lia,?_⟩
   by_cases hb:lo2 u>>>(u.length- 1)=1
   ·rw [decide_eq_true hb]at q
    rw [decide_eq_true (by lia:((lo2 u>>>(u.length- 1):Nat):Int)=1)]
    walk_at"mini"
    walk_at"st"
    refine⟨⟨by decide,mil (by walk_at"om")⟩,?_⟩
    have e2:(1:Int)*2^(u.length:Int).toNat=2^u.length:=by rw [Int.toNat_natCast,Int.one_mul]
    rw [e2]
    exact q
   ·rw [decide_eq_false hb]at q
    rw [decide_eq_false (by lia:¬((lo2 u>>>(u.length- 1):Nat):Int)=1)]
    walk_at"mini"
    repeat walk_at"st"
    exact q
theorem v1d {u:List Nat}:numC u false=if u0k u then .int (lo2 u)else .none:=by
 unfold numC
 rw [Bool.false_and,if_neg Bool.false_ne_true]
noncomputable def ltC (u v:List Nat):Nat:=if u0k u && u0k v then(if lo2 u<lo2 v then 1 else 0)else 3
theorem x6o {u v:List Nat} (hr:4≤r) (hu:Ok u) (hv:Ok v) (h0:0<u.length) (hl:u.length≤20) (h1:0<v.length) (hl1:v.length≤20) (q:Q (V [ltC u v]) σ):CS1 c.toCx r (.ref A.f_less) [V u,V v,.bool false] σ Q E t:=by
 refine w9n (by walk_at"om") ?_
 walk_at"st"
 refine v7b (by walk_at"om") ?_
 walk_at"st"
 refine v1n (by walk_at"om") hu h0 hl ?_
 walk_at"mini"
 walk_at"st"
 refine v1n (by walk_at"om") hv h1 hl1 ?_
 walk_at"mini"
 rw [v1d,v1d]
 unfold ltC at q
 have go:(u0k u && u0k v)=false→Q (V (gen 1 fun _=>3)) σ:=fun z=>by rw [z]at q;exact q
 cases ku:u0k u with
 |false=>
  walk_at"mini"
  repeat walk_at"st"
  refine u9s 1 (by walk_at"om") rfl (by decide) ?_
  walk_at"mini"
  exact go (by rw [ku];rfl)
 |true=>
  cases kv:u0k v with
  |false=>
   walk_at"mini"
   repeat walk_at"st"
   refine u9s 1 (by walk_at"om") rfl (by decide) ?_
   walk_at"mini"
   exact go (by rw [ku,kv];rfl)
  |true=>
   rw [ku,kv]at q
   replace q:Q (V [if lo2 u<lo2 v then 1 else 0]) σ:=q
   walk_at"mini"
   repeat walk_at"st"
   refine or3 (Nat.lt_trichotomy (lo2 u) (lo2 v)) (fun z=>?_) (fun z=>?_) (fun z=>?_)
   ·rw [if_pos z]at q
    rw [decide_eq_false (by lia:¬(lo2 u:Int)=lo2 v)]
    walk_at"mini"
    walk_at"st"
    rw [decide_eq_true (by lia:(lo2 u:Int)<lo2 v)]
    walk_at"mini"
    repeat walk_at"st"
    exact q
   ·rw [if_neg (by walk_at"om")]at q
    rw [decide_eq_true (by lia:(lo2 u:Int)=lo2 v)]
    walk_at"mini"
    repeat walk_at"st"
    exact q
   ·rw [if_neg (by walk_at"om")]at q
    rw [decide_eq_false (by lia:¬(lo2 u:Int)=lo2 v)]
    walk_at"mini"
    walk_at"st"
    rw [decide_eq_false (by lia:¬(lo2 u:Int)<lo2 v)]
    walk_at"mini"
    repeat walk_at"st"
    exact q
end
theorem x9d:∀x,x<4→∀y,y<4→((decide (x % 2=1)||decide (2≤x)) && (decide (y % 2=1)||decide (2≤y)))=decide ((if x=0∨y=0 then 0 else if x=1∧y=1 then 1 else 3) % 2=1):=by decide
theorem x9c:∀x,x<4→∀y,y<4→(((decide (x % 2=1)||decide (2≤x)) && (decide (y % 2=1)||decide (2≤y))) && (decide (2≤x)||decide (2≤y)))=decide (2≤(if x=0∨y=0 then 0 else if x=1∧y=1 then 1 else 3)):=by decide
theorem x5t:∀x,x<4→((decide (x % 2=1)^^true)||decide (2≤x))=decide ((if x<2 then 1- x else 3) % 2=1):=by decide
theorem x5s:∀x,x<4→decide (2≤x)=decide (2≤(if x<2 then 1- x else 3)):=by decide
theorem x8u:∀x,x<4→∀y,y<4→((decide (x % 2=1) && (true^^(((decide (x % 2=1)^^decide (y % 2=1))||decide (2≤x))||decide (2≤y))))||(true^^(true^^(((decide (x % 2=1)^^decide (y % 2=1))||decide (2≤x))||decide (2≤y)))))=decide ((if x=y∧x<2 then x else 3) % 2=1):=by decide
theorem x8t:∀x,x<4→∀y,y<4→(true^^(true^^(((decide (x % 2=1)^^decide (y % 2=1))||decide (2≤x))||decide (2≤y))))=decide (2≤(if x=y∧x<2 then x else 3)):=by decide
section
variable {c:CX} {r:Nat} {σ:Hp} {Q E:MV→Hp→Prop} {t:Tk Q E}
theorem x4s {x y z:MV} {Q:MV→Hp→Prop} (q:Q (.tup [y,z]) σ):u8p (.tup [x,y,z]) (.int 1) .none σ Q:=.inl ⟨_,_,rfl,rfl,rfl,⟨by show(1:Int)≤1;decide,by show(1:Int)≤3;decide,by show 3≤16777216;decide⟩,q⟩
noncomputable def andC (u v:List Nat):List Nat:=gen u.length fun i=>if at0 u i=0∨at0 v i=0 then 0 else if at0 u i=1∧at0 v i=1 then 1 else 3
theorem w6t {u v:List Nat}:Ok (andC u v):=u6u fun i _=>by split<;>(try split)<;>decide
theorem zx_s {x a b:Nat} (hr:1≤r) (q:Q (.tup [.int x,.int (a|||b:Nat),.int b]) σ):CS1 c.toCx r (.ref A.f_z_to_x) [.tup [.int x,.int a,.int b]] σ Q E t:=by
 refine w1c (by walk_at"om") ?_
 repeat walk_at"st"
 rw [bOr]
 exact q
theorem w6l {u v:List Nat} (hr:2≤r) (hu:Ok u) (hv:Ok v) (hl:u.length=v.length) (q:Q (V (andC u v)) σ):CS1 c.toCx r (.ref A.f_bit_and) [V u,V v] σ Q E t:=by
 refine v7f (by walk_at"om") ?_
 unfold V
 walk_at"st"
 refine zx_s (by walk_at"om") ?_
 refine⟨by walk_at"om",?_⟩
 walk_at"mini"
 walk_at"st"
 refine zx_s (by walk_at"om") (x4s ?_)
 refine⟨by walk_at"om",?_⟩
 walk_at"mini"
 repeat walk_at"st"
 simp only [bAnd,bOr]
 rw [V_of (cs:=andC u v) w6t (by simp [andC,u1g]) (fun i=>?_) (fun i=>?_)]
 ·exact q
 ·unfold andC
  rw [u2i,Nat.testBit_and,Nat.testBit_or,Nat.testBit_or,u1i,u1i,u0u _ _ hu,u0u _ _ hv]
  by_cases hi:i<u.length
  ·rw [if_pos hi]
   exact x9d _ (u1a hu i) _ (u1a hv i)
  ·rw [if_neg hi,u2d (by walk_at"om"),u2d (by walk_at"om")];rfl
 ·unfold andC
  rw [u2i,Nat.testBit_and,Nat.testBit_and,Nat.testBit_or,Nat.testBit_or,Nat.testBit_or,u1i,u1i,u0u _ _ hu,u0u _ _ hv]
  by_cases hi:i<u.length
  ·rw [if_pos hi]
   exact x9c _ (u1a hu i) _ (u1a hv i)
  ·rw [if_neg hi,u2d (by walk_at"om"),u2d (by walk_at"om")];rfl
noncomputable def notC (u:List Nat):List Nat:=gen u.length fun i=>if at0 u i<2 then 1- at0 u i else 3
theorem w6k {u:List Nat} (hr:2≤r) (hu:Ok u) (hl:u.length≤20) (q:Q (V (notC u)) σ):CS1 c.toCx r (.ref A.f_bit_not) [V u] σ Q E t:=by
 refine v7e (by walk_at"om") ?_
 unfold V
 walk_at"st"
 refine⟨by walk_at"om",?_⟩
 walk_at"mini"
 walk_at"st"
 refine u3w u.length (by walk_at"om") rfl (by walk_at"om") ?_
 walk_at"mini"
 simp only [bXor,bOr]
 rw [V_of (cs:=notC u) (u6u fun i _=>by split<;>lia) (by simp [notC,u1g]) (fun i=>?_) (fun i=>?_)]
 ·exact q
 ·unfold notC
  rw [u2i,Nat.testBit_or,Nat.testBit_xor,u1i,u0u _ _ hu,u3j]
  by_cases hi:i<u.length
  ·rw [if_pos hi,decide_eq_true hi]
   exact x5t _ (u1a hu i)
  ·rw [if_neg hi,u2d (by walk_at"om"),decide_eq_false hi];rfl
 ·unfold notC
  rw [u2i,u0u _ _ hu]
  by_cases hi:i<u.length
  ·rw [if_pos hi]
   exact x5s _ (u1a hu i)
  ·rw [if_neg hi,u2d (by walk_at"om")]
theorem v6j {u v:List Nat} (hr:4≤r) (hu:Ok u) (hv:Ok v) (hl:u.length=v.length) (hl20:u.length≤20) (q:Q (V (notC [u3s u v])) σ):CS1 c.toCx r (.ref A.f_not_equal) [V u,V v] σ Q E t:=by
 refine v2u (by walk_at"om") ?_
 walk_at"st"
 refine w5n (by walk_at"om") hu hv hl hl20 ?_
 walk_at"mini"
 refine w6k (by walk_at"om") (fun x hx=>by rw [List.mem_singleton.mp hx];exact v7v) (by show 1≤20;decide) ?_
 walk_at"mini"
 exact q
noncomputable def choC (u v:List Nat):List Nat:=gen u.length fun i=>if at0 u i=at0 v i∧at0 u i<2 then at0 u i else 3
noncomputable def v0a (k u v:List Nat):List Nat:=if u2z k=1 then u else if u2z k=0 then v else choC u v
theorem w9i {k u v:List Nat} (hr:3≤r) (hk:Ok k) (hkl:k.length≤20) (hu:Ok u) (hv:Ok v) (hl:u.length=v.length) (hl20:u.length≤20) (q:Q (V (v0a k u v)) σ):CS1 c.toCx r (.ref A.f_choose) [V k,V u,V v] σ Q E t:=by
 refine w1g (by walk_at"om") ?_
 walk_at"st"
 refine v5n (by walk_at"om") hk hkl ?_
 walk_at"mini"
 unfold v0a at q
 by_cases h1:u2z k=1
 ·rw [if_pos h1]at q
  rw [h1]
  repeat walk_at"st"
  exact q
 rw [if_neg h1]at q
 by_cases h0:u2z k=0
 ·rw [if_pos h0]at q
  rw [h0]
  repeat walk_at"st"
  exact q
 rw [if_neg h0]at q
 walk_at"st"
 rw [decide_eq_false (by lia:¬(u2z k:Int)=1)]
 walk_at"mini"
 walk_at"st"
 rw [decide_eq_false (by lia:¬(u2z k:Int)=0)]
 walk_at"mini"
 unfold V
 walk_at"st"
 walk_at"st"
 refine u3w u.length (by walk_at"om") rfl (by walk_at"om") ?_
 walk_at"mini"
 walk_at"st"
 refine u3w u.length (by walk_at"om") rfl (by walk_at"om") ?_
 walk_at"mini"
 repeat walk_at"st"
 simp only [bXor,bOr,bAnd]
 rw [V_of (cs:=choC u v) (u6u fun i _=>by split<;>lia) (by simp [choC,u1g]) (fun i=>?_) (fun i=>?_)]
 ·exact q
 ·unfold choC
  simp only [u2i,Nat.testBit_or,Nat.testBit_xor,Nat.testBit_and,u1i,u0u _ _ hu,u0u _ _ hv,u3j]
  by_cases hi:i<u.length
  ·rw [if_pos hi,decide_eq_true hi]
   exact x8u _ (u1a hu i) _ (u1a hv i)
  ·rw [if_neg hi,u2d (by walk_at"om"),u2d (by walk_at"om"),decide_eq_false hi];rfl
 ·unfold choC
  simp only [u2i,Nat.testBit_or,Nat.testBit_xor,u1i,u0u _ _ hu,u0u _ _ hv,u3j]
  by_cases hi:i<u.length
  ·rw [if_pos hi,decide_eq_true hi]
   exact x8t _ (u1a hu i) _ (u1a hv i)
  ·rw [if_neg hi,u2d (by walk_at"om"),u2d (by walk_at"om"),decide_eq_false hi];rfl
end
theorem x9o:∀p q:Bool,((p^^q)=false)↔(p=q):=by decide
theorem w9l {u v:List Nat} (hu:Ok u) (hv:Ok v) (hl:u.length=v.length) {F:Nat}:
  (((lo2 u^^^lo2 v) &&& (mk u.length^^^F))=0∧((hi2 u^^^hi2 v) &&& (mk u.length^^^F))=0)↔∀i,i<u.length→at0 u i=at0 v i∨F.testBit i=true:=by
 rw [u2s,u2s]
 constructor
 ·intro zz2013 i hi
  refine u0a zz2013 fun f g=>?_
  have a:=f i
  have b:=g i
  simp only [Nat.testBit_and,Nat.testBit_xor,u1i,u0u _ _ hu,u0u _ _ hv,u3j,decide_eq_true hi]at a b
  cases k:F.testBit i with
  |true=>exact .inr rfl
  |false=>
   rw [k]at a b
   simp only [Bool.xor_false,Bool.and_true,x9o,decide_eq_decide]at a b
   exact .inl (x4j _ (u1a hu i) _ (u1a hv i) a b)
 ·intro f
  have one:∀i (p q:Bool),(at0 u i=at0 v i→p=q)→((p^^q) && (decide (i<u.length)^^F.testBit i))=false∨(¬i<u.length):=fun i p q e=>by
   by_cases hi:i<u.length
   ·refine Or.elim (f i hi) (fun z=>?_) (fun z=>?_)
    ·rw [e z];simp
    ·rw [z,decide_eq_true hi];simp
   ·exact .inr hi
  refine⟨fun i=>?_,fun i=>?_⟩
  ·simp only [Nat.testBit_and,Nat.testBit_xor,u1i,u3j]
   refine Or.elim (one i (decide (at0 u i % 2=1)) (decide (at0 v i % 2=1)) (fun e=>by rw [e])) (fun z=>?_) (fun z=>?_)
   ·exact z
   ·rw [u2d (by walk_at"om"),u2d (by walk_at"om")];rfl
  ·simp only [Nat.testBit_and,Nat.testBit_xor,u0u _ _ hu,u0u _ _ hv,u3j]
   refine Or.elim (one i (decide (2≤at0 u i)) (decide (2≤at0 v i)) (fun e=>by rw [e])) (fun z=>?_) (fun z=>?_)
   ·exact z
   ·rw [u2d (by walk_at"om"),u2d (by walk_at"om")];rfl
noncomputable def fitC (kind x y:Nat):Bool:=x==y||(kind==135 && (x==2||y==2))||(kind==136 && (Nat.ble 2 x||Nat.ble 2 y))
noncomputable def u1h (kind:Nat) (u v:List Nat):Bool:=(List.range u.length).all fun i=>fitC kind (at0 u i) (at0 v i)
theorem fz_k:∀x,x<4→∀y,y<4→(((decide (2≤x) && (decide (2≤x)^^decide (x % 2=1)))||(decide (2≤y) && (decide (2≤y)^^decide (y % 2=1))))=true↔(x=2∨y=2)):=by decide
section
variable {c:CX} {r:Nat} {σ:Hp} {Q E:MV→Hp→Prop} {t:Tk Q E}
theorem w6c {u v:List Nat} {k kd x:MV} (hr:2≤r) (hu:Ok u) (hv:Ok v) (hl:u.length=v.length) (hl20:u.length≤20) {F kind:Nat} (hk:∀i,i<u.length→((at0 u i=at0 v i∨F.testBit i=true)↔fitC kind (at0 u i) (at0 v i)=true)) (q:Q (.bool (u1h kind u v)) σ):
  swps Tb (CSf c.toCx) (r- 1) M.z2c [some kd,some (V u),some (V v),some (.int F),none] σ (retQ Q) (fun x _ σ1=>E x σ1):=by
 unfold V
 walk_at"st"
 refine u3w u.length (by walk_at"om") rfl (by walk_at"om") ?_
 walk_at"mini"
 walk_at"st"
 simp only [bXor,bAnd]
 have z:=w9l hu hv hl (F:=F)
 have e:u1h kind u v=decide (((lo2 u^^^lo2 v) &&& (mk u.length^^^F))=0∧((hi2 u^^^hi2 v) &&& (mk u.length^^^F))=0):=by
  rw [Bool.eq_iff_iff,decide_eq_true_iff,z]
  unfold u1h
  rw [List.all_eq_true]
  exact⟨fun f i hi=>(hk i hi).mpr (f i (List.mem_range.mpr hi)),fun f i hi=>(hk i (List.mem_range.mp hi)).mp (f i (List.mem_range.mp hi))⟩
 rw [e]at q
 by_cases h1:((lo2 u^^^lo2 v) &&& (mk u.length^^^F))=0
 ·rw [decide_eq_true (by lia:(((lo2 u^^^lo2 v) &&& (mk u.length^^^F):Nat):Int)=0)]
  walk_at"mini"
  by_cases h2:((hi2 u^^^hi2 v) &&& (mk u.length^^^F))=0
  ·rw [decide_eq_true (by lia:(((hi2 u^^^hi2 v) &&& (mk u.length^^^F):Nat):Int)=0)]
   rw [decide_eq_true ⟨h1,h2⟩]at q
   exact q
  ·rw [decide_eq_false (by lia:¬(((hi2 u^^^hi2 v) &&& (mk u.length^^^F):Nat):Int)=0)]
   rw [decide_eq_false (fun z=>h2 z.2)]at q
   exact q
 ·rw [decide_eq_false (by lia:¬(((lo2 u^^^lo2 v) &&& (mk u.length^^^F):Nat):Int)=0)]
  rw [decide_eq_false (fun z=>h1 z.1)]at q
  walk_at"mini"
  exact q
theorem w4e {u v:List Nat} {kind:Nat} (hr:2≤r) (hk:kind=77∨kind=135∨kind=136) (hu:Ok u) (hv:Ok v) (hl:u.length=v.length) (hl20:u.length≤20) (q:Q (.bool (u1h kind u v)) σ):CS1 c.toCx r (.ref A.f_matchesV) [.sym kind,V u,V v] σ Q E t:=by
 refine v5a (by walk_at"om") ?_
 walk_at"st"
 refine or3 hk (fun zz501=>?_) (fun zz502=>?_) (fun zz503=>?_)
 ·subst zz501
  walk_at"st"
  rw [u0w M.z2c]
  exact w6c (k:=.none) (x:=.none) (F:=0) (kind:=77) hr hu hv hl hl20 (fun i hi=>by
   rw [Nat.zero_testBit]
   unfold fitC
   simp) q
 ·subst zz502
  unfold V
  walk_at"st"
  walk_at"st"
  rw [u0w M.z2c]
  simp only [bXor,bAnd,bOr]
  refine w6c (k:=.none) (x:=.none) (kind:=135) hr hu hv hl hl20 (fun i hi=>?_) q
  rw [Nat.testBit_or,Nat.testBit_and,Nat.testBit_and,Nat.testBit_xor,Nat.testBit_xor,u0u _ _ hu,u0u _ _ hv,u1i,u1i,fz_k _ (u1a hu i) _ (u1a hv i)]
  unfold fitC
  simp
 ·subst zz503
  unfold V
  walk_at"st"
  walk_at"st"
  walk_at"st"
  rw [u0w M.z2c]
  simp only [bOr]
  refine w6c (k:=.none) (x:=.none) (kind:=136) hr hu hv hl hl20 (fun i hi=>?_) q
  rw [Nat.testBit_or,u0u _ _ hu,u0u _ _ hv]
  unfold fitC
  simp
end
inductive Ex where
 |const (cs:List Nat)
 |loc (i:Nat)
 |bin (w op:Nat) (a b:Ex)
 |cond (k a b:Ex)
 |slc (e:Ex)
noncomputable def Ex.mv:Ex→MV
 |.const cs=>.tup [.sym 31,.int 4,.int (lo2 cs),.int (hi2 cs)]
 |.loc i=>.tup [.sym 34,.int 4,.int i]
 |.bin w op a b=>.tup [.sym 36,.int w,.sym op,a.mv,b.mv,.bool false]
 |.cond k a b=>.tup [.sym 42,.int 4,k.mv,a.mv,b.mv]
 |.slc e=>.tup [.sym 39,.int 2,e.mv,.int 1]
inductive Ex.Wf:Ex→Nat→Prop
 |const {cs:List Nat} (h:Ok cs) (l:cs.length=4):Wf (.const cs) 4
 |loc {i:Nat} (h:i<4):Wf (.loc i) 4
 |num {op:Nat} {a b:Ex} (h:op=7∨op=8∨op=24) (ha:Wf a 4) (hb:Wf b 4):Wf (.bin 4 op a b) 4
 |test {op:Nat} {a b:Ex} (h:op=16∨op=20∨op=21) (ha:Wf a 4) (hb:Wf b 4):Wf (.bin 1 op a b) 1
 |cond {k a b:Ex} (hk:Wf k 1) (ha:Wf a 4) (hb:Wf b 4):Wf (.cond k a b) 4
 |slc {e:Ex} (h:Wf e 4):Wf (.slc e) 2
theorem Ex.Wf.pos {e:Ex} {w:Nat} (h:e.Wf w):0<w:=by cases h<;>decide
noncomputable def opC (op:Nat) (u v:List Nat):List Nat:=
 if op=7 then addC u v else if op=8 then subC u v else if op=24 then andC u v else if op=16 then[ltC u v]else if op=20 then[u3s u v]else notC [u3s u v]
noncomputable def Ex.val (F:List (List Nat)):Ex→List Nat
 |.const cs=>cs
 |.loc i=>F.getD i []
 |.bin _ op a b=>opC op (a.val F) (b.val F)
 |.cond k a b=>v0a (k.val F) (a.val F) (b.val F)
 |.slc e=>u3g (e.val F) 1 2
noncomputable def Ex.deep:Ex→Nat
 |.const _=>1
 |.loc _=>1
 |.bin _ _ a b=>max a.deep b.deep+1
 |.cond k a b=>max k.deep (max a.deep b.deep)+1
 |.slc e=>e.deep+1
structure XOk (e:Ex) (w:Nat):Prop where
 wf:e.Wf w
 dp:e.deep≤6
structure Fr4 (F:List (List Nat)):Prop where
 len:F.length=4
 ok:∀cs ∈ F,Ok cs∧cs.length=4
theorem Fr4.at {F:List (List Nat)} (h:Fr4 F) {i:Nat} (hi:i<4):∃cs,F[i]?=some cs∧F.getD i []=cs∧Ok cs∧cs.length=4:=by
 have hi':i<F.length:=h.len▸hi
 refine⟨F[i],List.getElem?_eq_getElem hi',?_,h.ok _ (List.getElem_mem hi')⟩
 rw [List.getD_eq_getElem?_getD,List.getElem?_eq_getElem hi'];rfl
theorem w6u {u v:List Nat}:Ok (addC u v)∧(addC u v).length=u.length:=by
 unfold addC
 split
 ·exact⟨v3b,u4w⟩
 ·exact⟨v2e,u1g ..⟩
theorem w2g {u v:List Nat}:Ok (subC u v)∧(subC u v).length=u.length:=by
 unfold subC
 split
 ·exact⟨v3b,u4w⟩
 ·exact⟨v2e,u1g ..⟩
theorem x6c {u v:List Nat}:ltC u v<4:=by unfold ltC;split<;>(try split)<;>decide
theorem x0h {x:Nat} (h:x<4):Ok [x]:=fun y hy=>by rw [List.mem_singleton.mp hy];exact h
theorem x1q {u:List Nat}:Ok (notC u):=u6u fun i _=>by split<;>lia
theorem x3n {u v:List Nat}:Ok (choC u v):=u6u fun i _=>by split<;>lia
theorem Ex.Wf.ok {F:List (List Nat)} (hF:Fr4 F) {e:Ex} {w:Nat} (h:e.Wf w):Ok (e.val F)∧(e.val F).length=w:=by
 induction h with
 |const h l=>exact⟨h,l⟩
 |loc h=>refine u1e (hF.at h) fun cs _ e h=>?_;show Ok (F.getD _ [])∧(F.getD _ []).length=4;rw [e];exact h
 |num h ha hb iha ihb=>
  refine or3 h (fun zz501=>?_) (fun zz502=>?_) (fun zz503=>?_)
  ·subst zz501
   exact⟨w6u.1,w6u.2.trans iha.2⟩
  ·subst zz502
   exact⟨w2g.1,w2g.2.trans iha.2⟩
  ·subst zz503
   exact⟨w6t,(u1g ..).trans iha.2⟩
 |test h ha hb iha ihb=>
  refine or3 h (fun zz504=>?_) (fun zz505=>?_) (fun zz506=>?_)
  ·subst zz504
   exact⟨x0h x6c,rfl⟩
  ·subst zz505
   exact⟨x0h v7v,rfl⟩
  ·subst zz506
   exact⟨x1q,u1g ..⟩
 |cond hk ha hb ihk iha ihb=>
  show Ok (v0a _ _ _)∧(v0a _ _ _).length=4
  unfold v0a
  split
  ·exact iha
  ·split
   ·exact ihb
   ·exact⟨x3n,(u1g ..).trans iha.2⟩
 |slc h ih=>exact⟨v3q ih.1 _ _,u1g _ _⟩
section
variable {c:CX} {r:Nat} {σ:Hp} {Q E:MV→Hp→Prop} {t:Tk Q E}
theorem v9a {op:Nat} {u v s:MV} (hr:1≤r) (h:op=24∨op=16∨op=20∨op=21) (q:Q .none σ):CS1 c.toCx r (.ref A.f_arithmetic) [.sym op,u,v,s] σ Q E t:=by
 rcases h with rfl|rfl|rfl|rfl<;>(refine u3p (by walk_at"om") ?_;(repeat walk_at"st");exact q)
theorem x3h {u v s:MV} (hr:1≤r) (q:Q .none σ):CS1 c.toCx r (.ref A.f_comparison) [.sym 24,u,v,s] σ Q E t:=by
 refine u5u (by walk_at"om") ?_;(repeat walk_at"st");exact q
theorem x8r {op:Nat} {u v:List Nat} (h:op=16∨op=20∨op=21) (hr:6≤r) (hu:Ok u) (hv:Ok v) (lu:u.length=4) (lv:v.length=4) (q:Q (V (opC op u v)) σ):CS1 c.toCx r (.ref A.f_comparison) [.sym op,V u,V v,.bool false] σ Q E t:=by
 refine u5u (by walk_at"om") ?_
 refine or3 h (fun zz507=>?_) (fun zz508=>?_) (fun zz509=>?_)
 ·subst zz507
  repeat walk_at"st"
  refine x6o (by walk_at"om") hu hv (by walk_at"om") (by walk_at"om") (by walk_at"om") (by walk_at"om") ?_
  walk_at"mini"
  exact q
 ·subst zz508
  repeat walk_at"st"
  refine w5n (by walk_at"om") hu hv (lu.trans lv.symm) (by walk_at"om") ?_
  walk_at"mini"
  exact q
 ·subst zz509
  repeat walk_at"st"
  refine v6j (by walk_at"om") hu hv (lu.trans lv.symm) (by walk_at"om") ?_
  walk_at"mini"
  exact q
theorem w1h {op:Nat} {u v:List Nat} (h:op=7∨op=8∨op=24) (hr:8≤r) (hu:Ok u) (hv:Ok v) (lu:u.length=4) (lv:v.length=4) (q:Q (V (opC op u v)) σ):CS1 c.toCx r (.ref A.f_binary) [.sym op,V u,V v,.bool false] σ Q E t:=by
 refine v1k (by walk_at"om") ?_
 walk_at"st"
 refine or3 h (fun zz510=>?_) (fun zz511=>?_) (fun zz512=>?_)
 ·subst zz510
  refine u3p (by walk_at"om") ?_
  repeat walk_at"st"
  refine y9q (by walk_at"om") hu hv (by walk_at"om") ?_
  replace q:Q (V (addC u v)) σ:=q
  unfold V at q ⊢
  walk_at"mini"
  repeat walk_at"st"
  exact q
 ·subst zz511
  refine u3p (by walk_at"om") ?_
  repeat walk_at"st"
  refine x9w (by walk_at"om") hu hv (by walk_at"om") ?_
  replace q:Q (V (subC u v)) σ:=q
  unfold V at q ⊢
  walk_at"mini"
  repeat walk_at"st"
  exact q
 ·subst zz512
  refine v9a (by walk_at"om") (by walk_at"om") ?_
  walk_at"st"
  walk_at"st"
  refine x3h (by walk_at"om") ?_
  walk_at"st"
  walk_at"st"
  refine v7d (by walk_at"om") ?_
  repeat walk_at"st"
  refine w6l (by walk_at"om") hu hv (lu.trans lv.symm) ?_
  replace q:Q (V (andC u v)) σ:=q
  unfold V at q ⊢
  walk_at"mini"
  repeat walk_at"st"
  exact q
theorem v7j {op:Nat} {u v:List Nat} (h:op=16∨op=20∨op=21) (hr:8≤r) (hu:Ok u) (hv:Ok v) (lu:u.length=4) (lv:v.length=4) (q:Q (V (opC op u v)) σ):CS1 c.toCx r (.ref A.f_binary) [.sym op,V u,V v,.bool false] σ Q E t:=by
 refine v1k (by walk_at"om") ?_
 walk_at"st"
 refine v9a (by walk_at"om") (by walk_at"om") ?_
 walk_at"st"
 walk_at"st"
 refine x8r h (by walk_at"om") hu hv lu lv ?_
 unfold V at q ⊢
 walk_at"mini"
 repeat walk_at"st"
 exact q
end
section
variable {c:CX}
theorem dp2 {x y r:Nat} (h:2*(max x y+1)+10≤r):2*x+12≤r∧2*y+12≤r:=
 ⟨Nat.le_trans (Nat.add_le_add_right (Nat.mul_le_mul_left 2 (Nat.le_max_left x y)) 12) h,Nat.le_trans (Nat.add_le_add_right (Nat.mul_le_mul_left 2 (Nat.le_max_right x y)) 12) h⟩
theorem x8f {F:List (List Nat)} (hF:Fr4 F) {cx fr:Addr} {fs:List (Nat×MV)} (h2:fs.lookup 35=some (.ref fr)) {g:Ex} {w:Nat} (hw:g.Wf w):∀{r:Nat} {σ:Hp} {Q E:MV→Hp→Prop} {t:Tk Q E},2*g.deep+10≤r→
  σ cx=some (.inst A.c_FunctionContext fs)→σ fr=some (.list (F.map V))→Q (V (g.val F)) σ→CS1 c.toCx r (.ref A.f_evaluate) [g.mv,.ref cx] σ Q E t:=by
 induction hw with
 |@const cs ok l=>
  intro r σ Q E t hr h1 h3 q
  show CS1 c.toCx r (.ref A.f_evaluate) [.tup [.sym 31,.int 4,.int (lo2 cs),.int (hi2 cs)],.ref cx] σ Q E t
  refine u1q (by walk_at"om") ?_
  repeat walk_at"st"
  replace q:Q (V cs) σ:=q
  unfold V at q
  rw [l]at q
  exact q
 |@loc i hi=>
  intro r σ Q E t hr h1 h3 q
  refine u1e (hF.at hi) fun cs e1 e2 _=>?_
  replace q:Q (V (F.getD i [])) σ:=q
  rw [e2]at q
  show CS1 c.toCx r (.ref A.f_evaluate) [.tup [.sym 34,.int 4,.int i],.ref cx] σ Q E t
  refine u1q (by walk_at"om") ?_
  repeat walk_at"st"
  refine u1l h1 (by rfl) h2 ?_
  walk_at"mini"
  exact u0l i h3 rfl (by walk_at"om") (by rw [List.getElem?_map,e1];rfl) q
 |@num op a b hop wa wb ia ib=>
  intro r σ Q E t hr h1 h3 q
  refine u0a (dp2 hr) fun ha hb=>?_
  show CS1 c.toCx r (.ref A.f_evaluate) [.tup [.sym 36,.int 4,.sym op,a.mv,b.mv,.bool false],.ref cx] σ Q E t
  refine u1q (by walk_at"om") ?_
  repeat walk_at"st"
  refine ia (t:={}) (by walk_at"om") h1 h3 ?_
  walk_at"mini"
  refine ib (t:={}) (by walk_at"om") h1 h3 ?_
  walk_at"mini"
  exact w1h hop (by walk_at"om") (wa.ok hF).1 (wb.ok hF).1 (wa.ok hF).2 (wb.ok hF).2 q
 |@test op a b hop wa wb ia ib=>
  intro r σ Q E t hr h1 h3 q
  refine u0a (dp2 hr) fun ha hb=>?_
  show CS1 c.toCx r (.ref A.f_evaluate) [.tup [.sym 36,.int 1,.sym op,a.mv,b.mv,.bool false],.ref cx] σ Q E t
  refine u1q (by walk_at"om") ?_
  repeat walk_at"st"
  refine ia (t:={}) (by walk_at"om") h1 h3 ?_
  walk_at"mini"
  refine ib (t:={}) (by walk_at"om") h1 h3 ?_
  walk_at"mini"
  exact v7j hop (by walk_at"om") (wa.ok hF).1 (wb.ok hF).1 (wa.ok hF).2 (wb.ok hF).2 q
 |@cond k a b wk wa wb ik ia ib=>
  intro r σ Q E t hr h1 h3 q
  refine u0a (dp2 hr) fun hk hab=>?_
  refine u0a (dp2 hab) fun ha hb=>?_
  replace q:Q (V (v0a (k.val F) (a.val F) (b.val F))) σ:=q
  show CS1 c.toCx r (.ref A.f_evaluate) [.tup [.sym 42,.int 4,k.mv,a.mv,b.mv],.ref cx] σ Q E t
  refine u1q (by walk_at"om") ?_
  repeat walk_at"st"
  refine u9n (by walk_at"om") ?_
  walk_at"st"
  refine ik (t:={}) (by walk_at"om") h1 h3 ?_
  walk_at"mini"
  walk_at"st"
  have lk:=(wk.ok hF).2
  refine v5n (by walk_at"om") (wk.ok hF).1 (by walk_at"om") ?_
  walk_at"mini"
  unfold v0a at q
  by_cases z1:u2z (k.val F)=1
  ·rw [if_pos z1]at q
   rw [z1]
   repeat walk_at"st"
   exact ia (by walk_at"om") h1 h3 q
  by_cases z0:u2z (k.val F)=0
  ·rw [if_neg z1,if_pos z0]at q
   rw [z0]
   repeat walk_at"st"
   exact ib (by walk_at"om") h1 h3 q
  walk_at"st"
  refine u2c (fun z=>absurd (Int.ofNat_inj.mp z) z1) fun _=>?_
  walk_at"st"
  refine u2c (fun z=>absurd (Int.ofNat_inj.mp z) z0) fun _=>?_
  walk_at"st"
  refine ia (t:={}) (by walk_at"om") h1 h3 ?_
  walk_at"mini"
  refine ib (t:={}) (by walk_at"om") h1 h3 ?_
  walk_at"mini"
  have la:=(wa.ok hF).2
  exact w9i (by walk_at"om") (wk.ok hF).1 (by walk_at"om") (wa.ok hF).1 (wb.ok hF).1 (la.trans (wb.ok hF).2.symm) (by walk_at"om") q
 |@slc e we ie=>
  intro r σ Q E t hr h1 h3 q
  replace hr:2*e.deep+12≤r:=hr
  replace q:Q (V (u3g (e.val F) 1 2)) σ:=q
  show CS1 c.toCx r (.ref A.f_evaluate) [.tup [.sym 39,.int 2,e.mv,.int 1],.ref cx] σ Q E t
  refine u1q (by walk_at"om") ?_
  repeat walk_at"st"
  refine ie (t:={}) (by walk_at"om") h1 h3 ?_
  walk_at"mini"
  have le:=(we.ok hF).2
  exact u8o 1 2 (by walk_at"om") (we.ok hF).1 (by walk_at"om") (by decide) (by rw [le];decide) rfl rfl q
theorem u9j {F:List (List Nat)} (hF:Fr4 F) {cx fr:Addr} {fs:List (Nat×MV)} (h2:fs.lookup 35=some (.ref fr)) {e:Ex} {w r:Nat} {σ:Hp} {Q E:MV→Hp→Prop} {t:Tk Q E} (he:XOk e w) (hr:22≤r) (h1:σ cx=some (.inst A.c_FunctionContext fs)) (h3:σ fr=some (.list (F.map V))) (q:Q (V (e.val F)) σ):
  CS1 c.toCx r (.ref A.f_evaluate) [e.mv,.ref cx] σ Q E t:=x8f hF h2 he.wf (Nat.le_trans (Nat.add_le_add_right (Nat.mul_le_mul_left 2 he.dp) 10) hr) h1 h3 q
end
section
variable {c:CX} {r:Nat} {σ:Hp} {Q E:MV→Hp→Prop} {t:Tk Q E}
theorem w3z {a b:Nat} (h:a % 2=1↔b % 2=1):a % 2=b % 2:=by
 refine Or.elim (Nat.mod_two_eq_zero_or_one a) (fun e=>?_) (fun e=>?_)
 ·refine Or.elim (Nat.mod_two_eq_zero_or_one b) (fun k=>?_) (fun k=>?_)
  ·rw [e,k]
  ·rw [h.mpr k,k]
 ·rw [e,h.mp e]
theorem x6n (cs:List Nat) (i:Nat):lo2 cs / 2^i % 2=at0 cs i % 2:=by
 have h:=u1i cs i
 rw [Nat.testBit_eq_decide_div_mod_eq,decide_eq_decide]at h
 exact w3z h
theorem x7m (cs:List Nat) (i:Nat) (ok:Ok cs):hi2 cs / 2^i % 2=at0 cs i / 2:=by
 have h:=u0u cs i ok
 have k:=w5b _ (u1a ok i)
 rw [Nat.testBit_eq_decide_div_mod_eq,←k.1,decide_eq_decide]at h
 exact(w3z h).trans (Nat.mod_eq_of_lt k.2)
theorem v4d {cs:List Nat} {i:Nat} (h:i<cs.length):numL (cs.take i)++[.int (at0 cs i:Nat)]=numL (cs.take (i+1)):=by
 rw [List.take_add_one,u5f]
 unfold at0
 rw [List.getElem?_eq_getElem h]
 rfl
theorem x3j {x:MV} {cs:List Nat} (hr:2≤r) (ok:Ok cs) (l:cs.length=4) (q:∀a,σ a=none→Q (.ref a) (σ.put a (.list (numL cs)))):
  CS1 c.toCx r (.ref A.f__law_codes) [.tup [x,.int 4,.int (lo2 cs),.int (hi2 cs)]] σ Q E t:=by
 refine v0u (by walk_at"om") ?_
 walk_at"st"
 refine u1o (by walk_at"om") ?_
 walk_at"mini"
 refine⟨⟨by decide,by decide⟩,?_⟩
 refine u5g (fun i acc s=>s=σ∧acc=numL (cs.take i)) ⟨rfl,rfl⟩ (fun i acc s z=>⟨trivial,?_⟩) (fun i y acc s hy z=>?_) fun acc s z=>?_
 ·rw [z.2,u0n,List.length_take];unfold u0t;lia
 ·refine u0a z fun zz501 zz502=>?_
  subst zz501
  subst zz502
  have hi:i<4:=by have:=(List.getElem?_eq_some_iff.mp hy).1;simpa using this
  obtain rfl:y=.int (i:Int):=by
   rw [List.getElem?_map,List.getElem?_range (show i<Int.toNat 4 from hi)]at hy
   exact(Option.some.inj hy).symm
  refine⟨fun k hk=>by rw [List.mem_singleton.mp hk];exact Nat.lt_succ_self 1,?_⟩
  simp only [List.set_cons_succ,List.set_cons_zero]
  walk_at"mini"
  have hp:(2:Int)^(i:Int).toNat=((2^i:Nat):Int):=by simp
  have hp64:(2^i:Nat)<2^5:=Nat.pow_lt_pow_right (by decide) (by walk_at"om")
  have h0:=Nat.two_pow_pos i
  have a1:((2:Int)^(i:Int).toNat≠0)∧((2:Int)^(i:Int).toNat).natAbs<1073741824:=by rw [hp];lia
  have a2:(Int.natAbs 2<2^64)∧0≤(i:Int)∧(i:Int)≤1000000:=⟨by decide,by lia,by lia⟩
  have e1:(((lo2 cs:Int)).fdiv (2^(i:Int).toNat)).fmod 2=((at0 cs i % 2:Nat):Int):=by rw [hp,w0x,w8n,x6n]
  have e2:(((hi2 cs:Int)).fdiv (2^(i:Int).toNat)).fmod 2=((at0 cs i / 2:Nat):Int):=by rw [hp,w0x,w8n,x7m _ _ ok]
  have h4:=u1a ok i
  rw [e1,e2]
  refine⟨a2,a1,by decide,a2,a1,by decide,⟨by lia,by decide⟩,?_⟩
  rw [←v4d (by lia:i<cs.length)]
  congr 3
  lia
 ·refine u0a z fun zz503 zz504=>?_
  subst zz503
  subst zz504
  have e:cs.take (List.map (fun i=>MV.int ((i:Nat):Int)) (List.range (Int.toNat 4))).length=cs:=by
   rw [List.length_map,List.length_range]
   exact List.take_of_length_le (by rw [l];decide)
  rw [e]
  intro a ha
  walk_at"mini"
  exact q a ha
theorem v2o {a:Addr} {cs:List Nat} (hr:2≤r) (hs:σ a=some (.list (numL cs))) (h:Ok cs) (hl:cs.length≤20) (q:Q (numC cs false) σ):CS1 c.toCx r (.ref A.f__law_figure) [.ref a] σ Q E t:=by
 rw [v1d]at q
 refine u9o (by walk_at"om") ?_
 walk_at"st"
 walk_at"st"
 refine u0v (by walk_at"om") ?_
 walk_at"mini"
 refine w4i hs (by walk_at"om") ?_
 walk_at"mini"
 refine⟨⟨by lia,by lia⟩,?_⟩
 have hlen:((List.range (cs.length:Int).toNat).map fun(i:Nat)=>MV.int (i:Int)).length=cs.length:=by simp
 refine u3a (fun i l s=>∃l3,l=[some (.ref a),some (.int (lo2 (cs.take i):Int)),l3]∧s=σ∧∀j,j<i→at0 cs j<2) ⟨_,rfl,rfl,fun j hj=>by cases hj⟩ (fun _ _ _ _=>trivial) ?_ ?_
 ·intro i x l s hx zz2014
  refine u1e zz2014 fun l3 zz3001 zz3002 hj=>?_
  subst zz3001
  subst zz3002
  have hi:i<cs.length:=by have:=(List.getElem?_eq_some_iff.mp hx).1;rw [hlen]at this;exact this
  have hxi:x=.int (i:Int):=by
   rw [List.getElem?_map,Int.toNat_natCast,List.getElem?_range hi]at hx
   exact(Option.some.inj hx).symm
  subst hxi
  have h4:=u1a h i
  have hp:(2:Int)^(i:Int).toNat=((2^i:Nat):Int):=by simp
  have hp64:(2^i:Nat)<2^60:=Nat.pow_lt_pow_right (by decide) (by walk_at"om")
  show setP _ _ _ _
  walk_at"mini"
  walk_at"st"
  refine w4k i hs rfl hi (by walk_at"om") ?_
  walk_at"mini"
  by_cases hb:at0 cs i<2
  ·rw [decide_eq_false (by lia:¬(1:Int)<(at0 cs i:Int))]
   walk_at"mini"
   walk_at"st"
   refine w4k i hs rfl hi (by walk_at"om") ?_
   walk_at"mini"
   refine⟨⟨by decide,by lia,by lia⟩,?_⟩
   rw [hp]
   refine⟨⟨fits (by walk_at"om"),fits hp64⟩,?_⟩
   walk_at"mini"
   refine⟨some (.int (i:Int)),?_,fun j hj'=>?_⟩
   ·rw [v8h cs i hi,show at0 cs i % 2=at0 cs i by lia]
    simp
   ·by_cases z:j=i
    ·rw [z];exact hb
    ·exact hj j (by walk_at"om")
  ·rw [decide_eq_true (by lia:(1:Int)<(at0 cs i:Int))]
   walk_at"mini"
   repeat walk_at"st"
   have hk:u0k cs=false:=by
    cases k:u0k cs with
    |false=>rfl
    |true=>
     unfold u0k at k
     exact absurd (of_decide_eq_true (List.all_eq_true.mp k _ (v3d hi))) hb
   rw [hk]at q
   exact q
 ·intro l s zz2015
  refine u1e zz2015 fun l3 zz3003 zz3004 hj=>?_
  subst zz3003
  subst zz3004
  rw [hlen,List.take_length]
  walk_at"mini"
  walk_at"st"
  have hk:u0k cs=true:=by
   unfold u0k
   rw [List.all_eq_true]
   intro x hx
   refine u0d (v1y hx) fun i hi zz505=>?_
   subst zz505
   rw [hlen]at hj
   exact decide_eq_true (hj i hi)
  rw [hk,if_pos rfl]at q
  exact q
end
section
variable {c:CX} {r:Nat} {σ:Hp} {Q E:MV→Hp→Prop} {t:Tk Q E}
theorem w1n {u v:List Nat} {i:Nat} {x:MV} (hl:u.length=v.length) (hx:(List.zipWith (fun x y=>MV.tup [x,y]) (numL u) (numL v))[i]?=some x):i<u.length∧x=.tup [.int (at0 u i:Nat),.int (at0 v i:Nat)]:=by
 obtain⟨hi,e⟩:=List.getElem?_eq_some_iff.mp hx
 have h1:i<u.length:=by rw [List.length_zipWith,u0n,u0n]at hi;lia
 refine⟨h1,?_⟩
 rw [←e,List.getElem_zipWith]
 unfold numL at0
 rw [List.getElem_map,List.getElem_map,List.getElem?_eq_getElem h1,List.getElem?_eq_getElem (hl▸h1)]
 rfl
theorem v5i {u v:List Nat} (hl:u.length=v.length):(List.zipWith (fun x y=>MV.tup [x,y]) (numL u) (numL v)).length=u.length:=by
 rw [List.length_zipWith,u0n,u0n];lia
theorem x0e {a b:Addr} {u v:List Nat} (hr:2≤r) (h1:σ a=some (.list (numL u))) (h2:σ b=some (.list (numL v))) (hu:Ok u) (hv:Ok v) (hl:u.length=v.length) (h0:0<u.length) (hl20:u.length≤20) (q:∀σ',Same [] σ σ'→Q (.int (u3s u v:Nat)) σ'):
  CS1 c.toCx r (.ref A.f__law_same) [.ref a,.ref b] σ Q E t:=by
 refine v2w (by walk_at"om") ?_
 walk_at"st"
 refine u0v (by walk_at"om") ?_
 walk_at"mini"
 refine⟨_,_,_,_,rfl,rfl,h1,h2,?_⟩
 refine u3a (fun i l s=>∃l2 l3,l=[some (.ref a),some (.ref b),l2,l3]∧s=σ∧∀j,j<i→¬(at0 u j<2∧at0 v j<2∧at0 u j≠at0 v j)) ⟨_,_,rfl,rfl,fun j hj=>by cases hj⟩ (fun _ _ _ z=>by refine u1c z fun _ _ _ zz501 _=>?_;subst zz501;exact⟨h1,h2⟩) ?_ ?_
 ·intro i x l s hx zz2016
  refine u1c zz2016 fun l2 l3 zz3001 zz3002 hj=>?_
  subst zz3001
  subst zz3002
  refine u0a (w1n hl hx) fun hi zz502=>?_
  subst zz502
  have g1:=u1a hu i
  have g2:=u1a hv i
  have more:¬(at0 u i<2∧at0 v i<2∧at0 u i≠at0 v i)→∀j,j<i+1→¬(at0 u j<2∧at0 v j<2∧at0 u j≠at0 v j):=fun z j hj'=>by
   by_cases e:j=i
   ·rw [e];exact z
   ·exact hj j (by walk_at"om")
  refine⟨by walk_at"om",?_⟩
  walk_at"mini"
  walk_at"st"
  by_cases z1:at0 u i<2
  ·rw [decide_eq_true (by lia:(at0 u i:Int)<2)]
   walk_at"mini"
   by_cases z2:at0 v i<2
   ·rw [decide_eq_true (by lia:(at0 v i:Int)<2)]
    walk_at"mini"
    by_cases z3:at0 u i=at0 v i
    ·rw [decide_eq_true (by lia:(at0 u i:Int)=at0 v i)]
     walk_at"mini"
     exact⟨_,_,rfl,more fun z=>z.2.2 z3⟩
    ·rw [decide_eq_false (by lia:¬(at0 u i:Int)=at0 v i)]
     walk_at"mini"
     repeat walk_at"st"
     have e:u3s u v=0:=by
      unfold u3s
      rw [if_pos (List.any_eq_true.mpr ⟨i,List.mem_range.mpr hi,decide_eq_true ⟨z1,z2,z3⟩⟩)]
     have:=q _ (Same.refl _ _)
     rw [e]at this
     exact this
   ·rw [decide_eq_false (by lia:¬(at0 v i:Int)<2)]
    walk_at"mini"
    exact⟨_,_,rfl,more fun z=>z2 z.2.1⟩
  ·rw [decide_eq_false (by lia:¬(at0 u i:Int)<2)]
   walk_at"mini"
   exact⟨_,_,rfl,more fun z=>z1 z.1⟩
 ·intro l s zz2017
  refine u1c zz2017 fun l2 l3 zz3003 zz3004 hj=>?_
  subst zz3003
  subst zz3004
  rw [v5i hl]at hj
  walk_at"mini"
  walk_at"st"
  refine⟨_,_,h1,h2,by rw [u0n,u0n];unfold u0t;lia,fun a3 h3=>?_⟩
  have hm:numL u++numL v=((u++v).map fun n:Nat=>(n:Int)).map MV.int:=by rw [←u5f,List.map_map];rfl
  rw [hm]
  obtain⟨r,rfl⟩:∃k,r=k+2:=⟨r- 2,by lia⟩
  have hS:=Same.new (F:=[]) (o:=.list (((u++v).map fun n:Nat=>(n:Int)).map MV.int)) h3
  refine w4d u0c (fun z=>by
   have:=congrArg List.length z
   rw [List.length_map,List.length_append]at this
   exact absurd this (Nat.ne_of_gt (Nat.lt_of_lt_of_le h0 (Nat.le_add_right ..)))) fun M hM hle=>?_
  walk_at"mini"
  have e:u3s u v=if M<2 then 1 else 3:=by
   unfold u3s
   rw [if_neg (fun z=>by
    refine u0d (List.any_eq_true.mp z) fun i hi z=>?_
    exact hj i (List.mem_range.mp hi) (of_decide_eq_true z))]
   by_cases hM2:M<2
   ·rw [if_pos hM2,if_pos]
    have k:∀x ∈ u++v,x<2:=fun x hx=>by
     have:=hle _ (List.mem_map_of_mem hx)
     lia
    unfold u0k
    rw [Bool.and_eq_true,List.all_eq_true,List.all_eq_true]
    exact⟨fun x hx=>decide_eq_true (k x (List.mem_append_left _ hx)),fun x hx=>decide_eq_true (k x (List.mem_append_right _ hx))⟩
   ·rw [if_neg hM2,if_neg]
    intro z
    unfold u0k at z
    rw [Bool.and_eq_true,List.all_eq_true,List.all_eq_true]at z
    refine u0d (List.mem_map.mp hM) fun x hx zz503=>?_
    subst zz503
    refine Or.elim (List.mem_append.mp hx) (fun hx=>?_) (fun hx=>?_)
    ·have:=of_decide_eq_true (z.1 x hx);lia
    ·have:=of_decide_eq_true (z.2 x hx);lia
  have q:=q _ hS
  rw [e]at q
  by_cases hM2:M<2
  ·rw [if_pos hM2]at q
   rw [decide_eq_true hM2]
   exact q
  ·rw [if_neg hM2]at q
   rw [decide_eq_false hM2]
   exact q
end
structure LFr (σ:Hp) (fr:Addr) (l:List Addr) (F:List (List Nat)):Prop where
 top:σ fr=some (.list (l.map MV.ref))
 len:l.length=F.length
 cell:∀(i:Nat) (a:Addr) (cs:List Nat),l[i]?=some a→F[i]?=some cs→σ a=some (.list (numL cs))
theorem LFr.up {σ σ':Hp} {fr:Addr} {l:List Addr} {F:List (List Nat)} (h:LFr σ fr l F) (s:Same [] σ σ'):LFr σ' fr l F:=
 ⟨s _ _ h.top (by simp),h.len,fun i a cs e1 e2=>s _ _ (h.cell i a cs e1 e2) (by simp)⟩
section
variable {c:CX}
def NewL (σ:Hp) (cs:List Nat) (Q:MV→Hp→Prop):Prop:=∀a σ',σ a=none→Same [] σ σ'→σ' a=some (.list (numL cs))→Q (.ref a) σ'
theorem v5k {cs:List Nat} {fr:MV} {r:Nat} {σ:Hp} {Q E:MV→Hp→Prop} {t:Tk Q E} (hr:3≤r) (ok:Ok cs) (l:cs.length=4) (q:NewL σ cs Q):
  CS1 c.toCx r (.ref A.f__law_value) [.tup [.sym 31,.int 4,.int (lo2 cs),.int (hi2 cs)],fr] σ Q E t:=by
 refine u1v (by walk_at"om") ?_
 repeat walk_at"st"
 refine x3j (by walk_at"om") ok l fun a ha=>?_
 walk_at"mini"
 exact q a _ ha (Same.new ha) u0c
theorem x0l {a:Addr} {xs:List MV} {r:Nat} {σ:Hp} {Q E:MV→Hp→Prop} {t:Tk Q E} (hs:σ a=some (.list xs)) (hl:xs.length≤1000) (q:newP (.list xs) σ Q):CS1 c.toCx r (.type "list") [.ref a] σ Q E t:=w0p hs (by unfold u0t;lia) q
theorem v5j {F:List (List Nat)} {i:Nat} {fr:Addr} {l:List Addr} {cs:List Nat} {r:Nat} {σ:Hp} {Q E:MV→Hp→Prop} {t:Tk Q E} (hr:3≤r) (hf:LFr σ fr l F) (hi:F[i]?=some cs) (hi4:i<4) (hcs:cs.length=4) (q:NewL σ cs Q):
  CS1 c.toCx r (.ref A.f__law_value) [.tup [.sym 34,.int 4,.int i],.ref fr] σ Q E t:=by
 have hil:i<l.length:=by rw [hf.len];exact(List.getElem?_eq_some_iff.mp hi).1
 have ha:=hf.cell i _ cs (List.getElem?_eq_getElem hil) hi
 refine u1v (by walk_at"om") ?_
 repeat walk_at"st"
 refine u0l i hf.top rfl (by walk_at"om") (v:=.ref l[i]) (by rw [List.getElem?_map,List.getElem?_eq_getElem hil];rfl) ?_
 walk_at"mini"
 refine x0l ha (by rw [u0n];lia) fun a h=>?_
 walk_at"mini"
 exact q a _ h (Same.new h) u0c
theorem x4u {a:Addr} {σ:Hp} {xs:List MV} {i j:Int} {Q:MV→Hp→Prop} (h:σ a=some (.list xs)) (hl:xs.length≤1000) (hi:0≤i) (hj:0≤j) (q:newP (.list ((xs.take j.toNat).drop i.toNat)) σ Q):u8p (.ref a) (.int i) (.int j) σ Q:=
 .inr ⟨a,xs,rfl,Nat.le_trans hl (by decide+kernel),.inl h,.inr (.inr ⟨i,j,rfl,rfl,hi,hj,q⟩)⟩
theorem x4r {cs:List Nat} (l:cs.length=4):(cs.take 3).drop 1=u3g cs 1 2:=by
 match cs,l with
 |[x,y,z,w],_=>rfl
theorem w1p {cs:List Nat} {e:MV} {fr:Addr} {r:Nat} {σ:Hp} {Q E:MV→Hp→Prop} {t:Tk Q E} (hr:3≤r) (l:cs.length=4) (ih:∀{Q E:MV→Hp→Prop} {t:Tk Q E},NewL σ cs Q→CS1 c.toCx (r- 1) (.ref A.f__law_value) [e,.ref fr] σ Q E t) (q:NewL σ (u3g cs 1 2) Q):
  CS1 c.toCx r (.ref A.f__law_value) [.tup [.sym 39,.int 2,e,.int 1],.ref fr] σ Q E t:=by
 refine u1v (by walk_at"om") ?_
 repeat walk_at"st"
 refine ih fun a σ' ha hs h1=>?_
 walk_at"mini"
 refine x4u h1 (by rw [u0n];lia) (by decide) (by decide) fun b hb=>?_
 walk_at"mini"
 have e1:((numL cs).take (1+2:Int).toNat).drop (1:Int).toNat=numL (u3g cs 1 2):=by
  rw [←x4r l]
  unfold numL
  rw [List.map_drop,List.map_take]
  rfl
 rw [e1]
 have hb0:σ b=none:=by
  cases z:σ b with
  |none=>rfl
  |some o=>have:=hs _ _ z (by simp);rw [hb]at this;cases this
 exact q b _ hb0 (hs.trans (Same.new hb)) u0c
theorem v8s {n i:Nat} {g:Nat→Nat} (h:i<n):(gen n g).take i++[g i]=(gen n g).take (i+1):=by
 rw [List.take_add_one]
 unfold gen
 rw [List.getElem?_map,List.getElem?_range h]
 rfl
theorem v7m {elt:ME} {i j:Nat} {loc:Loc} {a b:Addr} {u v:List Nat} {r:Nat} {σ:Hp} {Q:MV→Hp→Prop} (f:Nat→Nat→Nat) (hl:u.length=v.length) (l20:u.length≤20) (hi:i<loc.length∧j<loc.length) (h1:σ a=some (.list (numL u))) (h2:σ b=some (.list (numL v)))
  (he:∀x y s (Q':MV→Hp→Prop),Q' (.int (f x y:Nat)) s→ewp Tb (CSf c.toCx) r elt ((loc.set i (some (.int (x:Nat)))).set j (some (.int (y:Nat)))) s Q' (fun _ _=>False))
  (q:newP (.list (numL (gen u.length fun i=>f (at0 u i) (at0 v i)))) σ Q):
  w5x Tb (CSf c.toCx) r elt [i,j] false [] loc Q σ (List.zipWith (fun x y=>MV.tup [x,y]) (numL u) (numL v)) (fun s=>s a=some (.list (numL u))∧s b=some (.list (numL v))):=by
 refine u5g (fun k acc s=>s=σ∧acc=numL ((gen u.length fun i=>f (at0 u i) (at0 v i)).take k)) ⟨rfl,rfl⟩ (fun k acc s z=>?_) (fun k x acc s hx z=>?_) fun acc s z=>?_
 ·refine u0a z fun zz501 zz502=>?_
  subst zz501
  subst zz502
  refine⟨⟨h1,h2⟩,?_⟩
  rw [u0n,List.length_take,u1g];unfold u0t;lia
 ·refine u0a z fun zz503 zz504=>?_
  subst zz503
  subst zz504
  refine u0a (w1n hl hx) fun hk zz505=>?_
  subst zz505
  refine⟨fun m hm=>?_,rfl,?_⟩
  ·refine Or.elim (List.mem_cons.mp hm) (fun e=>?_) (fun e=>?_)
   ·rw [e];exact hi.1
   ·rw [List.mem_singleton.mp e];exact hi.2
  ·walk_at"mini"
   refine he _ _ _ _ ⟨rfl,?_⟩
   rw [←v8s hk,u5f]
   rfl
 ·refine u0a z fun zz506 zz507=>?_
  subst zz506
  subst zz507
  rw [v5i hl,List.take_of_length_le (Nat.le_of_eq (u1g ..))]
  exact q
end
section
variable {c:CX}
theorem Same.none {σ σ':Hp} {b:Addr} (s:Same [] σ σ') (h:σ' b=none):σ b=none:=by
 cases z:σ b with
 |none=>rfl
 |some o=>have:=s _ _ z (by simp);rw [h]at this;cases this
theorem NewL.to {σ σ':Hp} {cs:List Nat} {Q:MV→Hp→Prop} (q:NewL σ cs Q) (s:Same [] σ σ'):newP (.list (numL cs)) σ' Q:=fun b hb=>q b _ (s.none hb) (s.trans (Same.new hb)) u0c
theorem v3g {w op:Nat} {a b:MV} {u v:List Nat} {fr:Addr} {l:List Addr} {F:List (List Nat)} {r:Nat} {σ:Hp} {Q E:MV→Hp→Prop} {t:Tk Q E} (hr:1≤r) (hf:LFr σ fr l F)
  (ia:∀{Q E:MV→Hp→Prop} {t:Tk Q E},NewL σ u Q→CS1 c.toCx (r- 1) (.ref A.f__law_value) [a,.ref fr] σ Q E t)
  (ib:∀{σ1:Hp} {Q E:MV→Hp→Prop} {t:Tk Q E},LFr σ1 fr l F→NewL σ1 v Q→CS1 c.toCx (r- 1) (.ref A.f__law_value) [b,.ref fr] σ1 Q E t)
  (q:∀a1 a2 σ2,Same [] σ σ2→σ2 a1=some (.list (numL u))→σ2 a2=some (.list (numL v))→
   swps Tb (CSf c.toCx) (r- 1) M.z1y [some (.tup [.sym 36,.int w,.sym op,a,b,.bool false]),some (.ref fr),none,some (.ref a1),some (.ref a2),none,none,none,none,none,none,none,none,none] σ2 (retQ Q) fun x _ σ1=>E x σ1):
  CS1 c.toCx r (.ref A.f__law_value) [.tup [.sym 36,.int w,.sym op,a,b,.bool false],.ref fr] σ Q E t:=by
 refine u1v hr ?_
 walk_at"st"
 walk_at"st"
 walk_at"st"
 walk_at"st"
 walk_at"st"
 refine ia fun a1 σ1 n1 s1 e1=>?_
 walk_at"mini"
 walk_at"st"
 refine ib (hf.up s1) fun a2 σ2 n2 s2 e2=>?_
 walk_at"mini"
 rw [u0w M.z1y]
 exact q a1 a2 σ2 (s1.trans s2) (s2 _ _ e1 (by simp)) e2
variable {r:Nat} {fr a1 a2:Addr} {w:Nat} {a b:MV} {u v:List Nat} {σ σ2:Hp} {Q E:MV→Hp→Prop}
theorem w6x (hr:r≠0) (h1:σ2 a1=some (.list (numL u))) (h2:σ2 a2=some (.list (numL v))) (lu:u.length=4) (lv:v.length=4) (s:Same [] σ σ2) (q:NewL σ (andC u v) Q):
  swps Tb (CSf c.toCx) r M.z1y [some (.tup [.sym 36,.int w,.sym 24,a,b,.bool false]),some (.ref fr),none,some (.ref a1),some (.ref a2),none,none,none,none,none,none,none,none,none] σ2 (retQ Q) fun x _ σ1=>E x σ1:=by
 repeat walk_at"st"
 refine u1o hr ?_
 walk_at"mini"
 refine⟨_,_,_,_,rfl,rfl,h1,h2,v7m (fun x y=>if x=0∨y=0 then 0 else if x=1∧y=1 then 1 else 3) (lu.trans lv.symm) (by walk_at"om") ⟨Nat.le_of_ble_eq_true rfl,Nat.le_of_ble_eq_true rfl⟩ h1 h2 (fun x y s' Q' q'=>?_) ?_⟩
 ·simp only [List.set_cons_succ,List.set_cons_zero]
  walk_at"mini"
  by_cases hx:x=0
  ·rw [decide_eq_true (by rw [hx];rfl:(x:Int)=0)]
   rw [if_pos (.inl hx)]at q'
   exact q'
  rw [decide_eq_false (by lia:¬(x:Int)=0)]
  by_cases hy:y=0
  ·rw [decide_eq_true (by rw [hy];rfl:(y:Int)=0)]
   rw [if_pos (.inr hy)]at q'
   exact q'
  rw [decide_eq_false (by lia:¬(y:Int)=0)]
  rw [if_neg (fun z=>z.elim hx hy)]at q'
  by_cases hx1:x=1
  ·rw [decide_eq_true (by rw [hx1];rfl:(x:Int)=1)]
   by_cases hy1:y=1
   ·rw [decide_eq_true (by rw [hy1];rfl:(y:Int)=1)]
    rw [if_pos ⟨hx1,hy1⟩]at q'
    exact q'
   ·rw [decide_eq_false (by lia:¬(y:Int)=1)]
    rw [if_neg (fun z=>hy1 z.2)]at q'
    exact q'
  ·rw [decide_eq_false (by lia:¬(x:Int)=1)]
   rw [if_neg (fun z=>hx1 z.1)]at q'
   exact q'
 ·intro b hb
  walk_at"mini"
  exact q.to s b hb
theorem v6c (u v:List Nat):u3s u v=0∨u3s u v=1∨u3s u v=3:=by
 unfold u3s
 split
 ·exact .inl rfl
 ·split
  ·exact .inr (.inl rfl)
  ·exact .inr (.inr rfl)
theorem w2d {op:Nat} (ho:op=20∨op=21) (hr:2≤r) (h1:σ2 a1=some (.list (numL u))) (h2:σ2 a2=some (.list (numL v))) (hu:Ok u) (hv:Ok v) (lu:u.length=4) (lv:v.length=4) (s:Same [] σ σ2) (q:NewL σ (opC op u v) Q):
  swps Tb (CSf c.toCx) r M.z1y [some (.tup [.sym 36,.int w,.sym op,a,b,.bool false]),some (.ref fr),none,some (.ref a1),some (.ref a2),none,none,none,none,none,none,none,none,none] σ2 (retQ Q) fun x _ σ1=>E x σ1:=by
 have c:=v6c u v
 refine Or.elim ho (fun zz505=>?_) (fun zz506=>?_)
 ·subst zz505
  replace q:NewL σ [u3s u v] Q:=q
  walk_at"st"
  walk_at"st"
  refine⟨⟨rfl,rfl⟩,?_⟩
  rw [if_pos (by rfl)]
  walk_at"st"
  refine x0e hr h1 h2 hu hv (lu.trans lv.symm) (by walk_at"om") (by walk_at"om") fun σ3 s3=>?_
  generalize u3s u v=z at c q
  walk_at"mini"
  walk_at"st"
  have fin:=q.to (s.trans s3)
  rcases c with rfl|rfl|rfl<;>exact fin
 ·subst zz506
  replace q:NewL σ (notC [u3s u v]) Q:=q
  walk_at"st"
  walk_at"st"
  refine⟨⟨rfl,rfl⟩,?_⟩
  rw [if_pos (by rfl)]
  walk_at"st"
  refine x0e hr h1 h2 hu hv (lu.trans lv.symm) (by walk_at"om") (by walk_at"om") fun σ3 s3=>?_
  generalize u3s u v=z at c q
  walk_at"mini"
  walk_at"st"
  have fin:=q.to (s.trans s3)
  rcases c with rfl|rfl|rfl<;>exact fin
theorem x8y (n:Int) {i:Nat} (hi:i<4):(n.fdiv (2^(i:Int).toNat)).fmod 2=((if(n % (2^4:Nat)).toNat.testBit i then 1 else 0:Nat):Int):=by
 have h0:0≤n % (2^4:Nat):=Int.emod_nonneg _ (by decide)
 refine u0i (Int.eq_ofNat_of_zero_le h0) fun m hm=>?_
 have h4:4=i+(3- i)+1:=congrArg (· +1) (Nat.add_sub_of_le (Nat.le_of_lt_succ hi)).symm
 generalize 3- i=j at h4
 rw [h4]at hm h0 ⊢
 have hp:((2^i:Nat):Int)≠0:=Int.natCast_ne_zero.mpr (Nat.ne_of_gt (Nat.two_pow_pos i))
 have e:n=(m:Int)+((2^i:Nat):Int)*(2*(((2^j:Nat):Int)*(n /(2^(i+j+1):Nat)))):=by
  have k:=Int.emod_add_mul_ediv n (2^(i+j+1):Nat)
  rw [hm]at k
  rw [←Int.mul_assoc,←Int.mul_assoc,Int.mul_assoc (((2^i:Nat):Int)) 2,show((2^i:Nat):Int)*(2*((2^j:Nat):Int))=((2^(i+j+1):Nat):Int)by
   rw [show(2:Int)=((2:Nat):Int)from rfl,←Int.natCast_mul,←Int.natCast_mul,Nat.pow_succ,Nat.pow_add,Nat.mul_assoc,Nat.mul_comm 2]]
  exact k.symm
 rw [Int.fmod_eq_emod_of_nonneg _ (by decide),Int.toNat_natCast,show(2:Int)=((2:Nat):Int)from rfl,←Int.natCast_pow,Int.fdiv_eq_ediv_of_nonneg _ (Int.natCast_nonneg _),hm,Int.toNat_natCast,Nat.testBit_eq_decide_div_mod_eq]
 rw [e,Int.add_mul_ediv_left _ _ hp,show((2:Nat):Int)=2 from rfl,Int.add_mul_emod_self_left,show(2:Int)=((2:Nat):Int)from rfl,←Int.natCast_ediv,←Int.natCast_emod]
 refine Or.elim (Nat.mod_two_eq_zero_or_one (m / 2^i)) (fun z=>?_) (fun z=>?_)
 ·rw [z];rfl
 ·rw [z];rfl
theorem v6e {x:MV} {Q:MV→Hp→Prop} (hw:w≤100) (q:∀σ',Same [] σ σ'→newP (.list (List.replicate w x)) σ' Q):newP (.list [x]) σ fun va σ1=>binP .Mult va (.int w) σ1 Q:=by
 intro a ha
 have e:(List.replicate (w:Int).toNat [x]).flatten=List.replicate w x:=by rw [Int.toNat_natCast,List.flatten_replicate_singleton]
 refine⟨[x],u0c,Int.natCast_nonneg w,by lia,?_,?_⟩
 ·rw [Int.toNat_natCast,List.length_singleton,Nat.one_mul];lia
 ·rw [e];exact q _ (Same.new ha)
theorem v6i {w n:Nat}:numL (gen w fun _=>n)=List.replicate w (.int n):=by
 unfold numL gen
 rw [List.map_map]
 exact(List.map_const' ..).trans (congrArg (List.replicate · _) List.length_range)
theorem v7q {n:Int} {x1 x2 x3 x4 x5 x6 x7 x9 x10 x11 x12:Option MV} {x y z k:MV} (hr:r≠0) (q:newP (.list (numL (u5n 4 n))) σ Q):
  swps Tb (CSf c.toCx) r M.z2b [some (.tup [x,.int 4,y,z,k,.bool false]),x1,x2,x3,x4,x5,x6,x7,some (.int n),x9,x10,x11,x12,none] σ (retQ Q) fun x _ σ1=>E x σ1:=by
 walk_at"st"
 refine u1o hr ?_
 walk_at"mini"
 refine⟨⟨by decide,by decide⟩,?_⟩
 refine u5g (fun i acc s=>s=σ∧acc=numL ((u5n 4 n).take i)) ⟨rfl,rfl⟩ (fun i acc s z=>⟨trivial,?_⟩) (fun i y acc s hy z=>?_) fun acc s z=>?_
 ·rw [z.2,u0n,List.length_take,u4w];unfold u0t;lia
 ·refine u0a z fun zz501 zz502=>?_
  subst zz501
  subst zz502
  have hi:i<4:=by have:=(List.getElem?_eq_some_iff.mp hy).1;simpa using this
  obtain rfl:y=.int (i:Int):=by
   rw [List.getElem?_map,List.getElem?_range (show i<Int.toNat 4 from hi)]at hy
   exact(Option.some.inj hy).symm
  refine⟨fun k hk=>by rw [List.mem_singleton.mp hk];exact Nat.le_of_ble_eq_true rfl,?_⟩
  simp only [List.set_cons_succ,List.set_cons_zero]
  walk_at"mini"
  have hp:(2:Int)^(i:Int).toNat=((2^i:Nat):Int):=by simp
  have hp64:(2^i:Nat)<2^5:=Nat.pow_lt_pow_right (by decide) (by walk_at"om")
  have h0:=Nat.two_pow_pos i
  refine⟨⟨by decide,by lia,by lia⟩,by rw [hp];lia,by decide,?_⟩
  rw [x8y n hi]
  have e:=v8s (n:=4) (g:=fun i=>if(n % (2^4:Nat)).toNat.testBit i then 1 else 0) hi
  unfold u5n
  rw [←e,u5f]
  rfl
 ·refine u0a z fun zz503 zz504=>?_
  subst zz503
  subst zz504
  rw [List.length_map,List.length_range,List.take_of_length_le (l:=u5n 4 n) (by rw [u4w];decide)]
  exact q
theorem v1r {op:Nat} (ho:op=16∨op=7∨op=8) (hw:w=if op=16 then 1 else 4) (hr:2≤r) (h1:σ2 a1=some (.list (numL u))) (h2:σ2 a2=some (.list (numL v))) (hu:Ok u) (hv:Ok v) (lu:u.length=4) (lv:v.length=4) (s:Same [] σ σ2) (q:NewL σ (opC op u v) Q):
  swps Tb (CSf c.toCx) r M.z1y [some (.tup [.sym 36,.int w,.sym op,a,b,.bool false]),some (.ref fr),none,some (.ref a1),some (.ref a2),none,none,none,none,none,none,none,none,none] σ2 (retQ Q) fun x _ σ1=>E x σ1:=by
 have unk:(u0k u && u0k v)=false→NewL σ (gen w fun _=>3) Q:=fun z=>by
  rcases ho with rfl|rfl|rfl<;>(rw [hw];unfold opC ltC addC subC at q;rw [z,lu]at q;exact q)
 have hw4:w≤4:=by rw [hw];split<;>decide
 have go:∀(x y:MV),(x=.none∨y=.none∧∃n:Int,x=.int n)→(u0k u && u0k v)=false→swps Tb (CSf c.toCx) r (hide M.z2h) [some (.tup [.sym 36,.int w,.sym op,a,b,.bool false]),some (.ref fr),none,some (.ref a1),some (.ref a2),none,some x,some y,none,none,none,none,none,none] σ2 (retQ Q) fun x _ σ1=>E x σ1:=fun x y z k=>by
  have fin':newP (.list [.int 3]) σ2 fun va σ1=>binP .Mult va (.int w) σ1 Q:=v6e (by walk_at"om") fun σ' s'=>by
   have:=(unk k).to (s.trans s')
   rw [v6i]at this;exact this
  refine Or.elim z (fun zz507=>?_) (fun zz508=>?_)
  ·subst zz507
   walk_at"st"
   walk_at"st"
   exact fin'
  ·refine u0a zz508 fun zz3001 zz3002=>?_
   subst zz3001
   obtain⟨n,rfl⟩:=zz3002
   walk_at"st"
   walk_at"st"
   exact fin'
 have e1:([MV.sym 20,MV.sym 21].any fun x=>x.beq (MV.sym op))=false:=by rcases ho with rfl|rfl|rfl<;>rfl
 have e2:(op==24)=false:=by rcases ho with rfl|rfl|rfl<;>rfl
 walk_at"st"
 rw [e2]
 walk_at"mini"
 walk_at"st"
 refine⟨⟨rfl,rfl⟩,?_⟩
 rw [e1]
 walk_at"mini"
 walk_at"st"
 refine v2o hr h1 hu (by walk_at"om") ?_
 walk_at"mini"
 walk_at"st"
 refine v2o hr h2 hv (by walk_at"om") ?_
 walk_at"mini"
 rw [v1d,v1d]
 cases ku:u0k u with
 |false=>exact go _ _ (.inl rfl) (by rw [ku];rfl)
 |true=>
  cases kv:u0k v with
  |false=>exact go _ _ (.inr ⟨rfl,_,rfl⟩) (by rw [ku,kv];rfl)
  |true=>
   walk_at"mini"
   walk_at"st"
   refine or3 ho (fun zz509=>?_) (fun zz510=>?_) (fun zz511=>?_)
   ·subst zz509
    walk_at"st"
    walk_at"st"
    unfold opC ltC at q
    rw [ku,kv]at q
    refine u2c (fun h=>?_) fun h=>?_
    ·rw [if_pos (Int.ofNat_lt.mp h)]at q
     exact q.to s
    ·rw [if_neg (fun z=>h (Int.ofNat_lt.mpr z))]at q
     exact q.to s
   ·subst zz510
    walk_at"st"
    walk_at"st"
    rw [u0w M.z2b,hw]
    unfold opC addC at q
    rw [ku,kv,lu]at q
    exact v7q (by walk_at"om") (q.to s)
   ·subst zz511
    walk_at"st"
    walk_at"st"
    rw [u0w M.z2b,hw]
    unfold opC subC at q
    rw [ku,kv,lu]at q
    exact v7q (by walk_at"om") (q.to s)
end
section
variable {c:CX}
theorem Ex.Wf.one {F:List (List Nat)} {e:Ex} {w:Nat} (h:e.Wf w) (hw:w=1):∃x,e.val F=[x]∧(x=0∨x=1∨x=3):=by
 cases h with
 |test h ha hb=>
  refine or3 h (fun zz501=>?_) (fun zz502=>?_) (fun zz503=>?_)
  ·subst zz501
   refine⟨_,rfl,?_⟩
   show ltC _ _=0∨ltC _ _=1∨ltC _ _=3
   unfold ltC
   split
   ·split
    ·exact .inr (.inl rfl)
    ·exact .inl rfl
   ·exact .inr (.inr rfl)
  ·subst zz502
   exact⟨_,rfl,v6c ..⟩
  ·subst zz503
   refine⟨_,rfl,?_⟩
   rcases v6c (a.val F) (b.val F)with z|z|z<;>rw [z]
   ·exact .inr (.inl rfl)
   ·exact .inl rfl
   ·exact .inr (.inr rfl)
 |_=>cases hw
theorem w1y {x:Nat} (h:x=0∨x=1∨x=3):u2z [x]=x:=by rcases h with rfl|rfl|rfl<;>rfl
theorem dl2 {x y r:Nat} (h:max x y+1+4≤r):x+5≤r∧y+5≤r:=⟨Nat.le_trans (Nat.add_le_add_right (Nat.le_max_left x y) 5) h,Nat.le_trans (Nat.add_le_add_right (Nat.le_max_right x y) 5) h⟩
theorem x1d {F:List (List Nat)} (hF:Fr4 F) {fr:Addr} {l:List Addr} {g:Ex} {w:Nat} (hw:g.Wf w):∀{r:Nat} {σ:Hp} {Q E:MV→Hp→Prop} {t:Tk Q E},g.deep+4≤r→LFr σ fr l F→NewL σ (g.val F) Q→CS1 c.toCx r (.ref A.f__law_value) [g.mv,.ref fr] σ Q E t:=by
 induction hw with
 |const ok l=>intro r σ Q E t hr hf q;exact v5k (by walk_at"om") ok l q
 |loc h=>
  intro r σ Q E t hr hf q
  refine u4i (hF.at h) fun cs e1 e2 _ e3=>?_
  have q:NewL σ (F.getD _ []) Q:=q
  rw [e2]at q
  exact v5j (by walk_at"om") hf e1 h e3 q
 |num h ha hb ia ib=>
  intro r σ Q E t hr hf q
  refine u0a (dl2 hr) fun ga gb=>?_
  have oa:=ha.ok hF
  have ob:=hb.ok hF
  refine v3g (by walk_at"om") hf (fun q=>ia (by walk_at"om") hf q) (fun hf q=>ib (by walk_at"om") hf q) fun a1 a2 σ2 s h1 h2=>?_
  refine or3 h (fun zz504=>?_) (fun zz505=>?_) (fun zz506=>?_)
  ·subst zz504
   exact v1r (.inr (.inl rfl)) rfl (by walk_at"om") h1 h2 oa.1 ob.1 oa.2 ob.2 s q
  ·subst zz505
   exact v1r (.inr (.inr rfl)) rfl (by walk_at"om") h1 h2 oa.1 ob.1 oa.2 ob.2 s q
  ·subst zz506
   exact w6x (by walk_at"om") h1 h2 oa.2 ob.2 s q
 |test h ha hb ia ib=>
  intro r σ Q E t hr hf q
  refine u0a (dl2 hr) fun ga gb=>?_
  have oa:=ha.ok hF
  have ob:=hb.ok hF
  refine v3g (by walk_at"om") hf (fun q=>ia (by walk_at"om") hf q) (fun hf q=>ib (by walk_at"om") hf q) fun a1 a2 σ2 s h1 h2=>?_
  refine Or.elim h (fun zz507=>?_) (fun h=>?_)
  ·subst zz507
   exact v1r (.inl rfl) rfl (by walk_at"om") h1 h2 oa.1 ob.1 oa.2 ob.2 s q
  ·exact w2d h (by walk_at"om") h1 h2 oa.1 ob.1 oa.2 ob.2 s q
 |cond hk ha hb ik ia ib=>
  intro r σ Q E t hr hf q
  refine u0a (dl2 hr) fun gk gab=>?_
  refine u0a (dl2 gab) fun ga gb=>?_
  have oa:=ha.ok hF
  have ob:=hb.ok hF
  refine u0d (hk.one (F:=F) rfl) fun x ex hx=>?_
  replace q:NewL σ (v0a (k.val F) (a.val F) (b.val F)) Q:=q
  unfold v0a at q
  rw [ex,w1y hx]at q
  show CS1 c.toCx r (.ref A.f__law_value) [.tup [.sym 42,.int 4,k.mv,a.mv,b.mv],.ref fr] σ Q E t
  refine u1v (by walk_at"om") ?_
  walk_at"st"
  walk_at"st"
  walk_at"st"
  walk_at"st"
  walk_at"st"
  refine ik (t:={}) (by walk_at"om") hf fun a0 σ0 n0 s0 e0=>?_
  rw [ex]at e0
  walk_at"mini"
  refine u0l 0 e0 rfl (by decide) rfl ?_
  walk_at"mini"
  walk_at"st"
  refine ia (t:={}) (by walk_at"om") (hf.up s0) fun a1 σ1 n1 s1 e1=>?_
  walk_at"mini"
  walk_at"st"
  refine ib (t:={}) (by walk_at"om") (hf.up (s0.trans s1)) fun a2 σ2 n2 s2 e2=>?_
  walk_at"mini"
  walk_at"st"
  intro a3 n3
  have s3:Same [] σ2 _:=Same.new (o:=.list []) n3
  generalize σ2.put a3 (.list [])=σ3 at s3
  have h1:=s3 _ _ (s2 _ _ e1 (by simp)) (by simp)
  have h2:=s3 _ _ e2 (by simp)
  refine u1o (by walk_at"om") ?_
  walk_at"mini"
  refine⟨_,_,_,_,rfl,rfl,h1,h2,v7m (fun x y=>if x=y∧x<2 then x else 3) (oa.2.trans ob.2.symm) (by walk_at"om") ⟨Nat.le_of_ble_eq_true rfl,Nat.le_of_ble_eq_true rfl⟩ h1 h2 (fun x y s' Q' q'=>?_) ?_⟩
  ·simp only [List.set_cons_succ,List.set_cons_zero]
   walk_at"mini"
   by_cases e:x=y∧x<2
   ·rw [if_pos e]at q'
    rw [decide_eq_true (by rw [e.1]:(x:Int)=y),decide_eq_true (by lia:(x:Int)<2)]
    exact q'
   ·rw [if_neg e]at q'
    by_cases e':x=y
    ·rw [decide_eq_true (by rw [e']:(x:Int)=y),decide_eq_false (fun z=>e ⟨e',by lia⟩:¬(x:Int)<2)]
     exact q'
    ·rw [decide_eq_false (fun z=>e' (Int.ofNat_inj.mp z):¬(x:Int)=y)]
     exact q'
  ·intro a4 n4
   walk_at"mini"
   have s4:Same [] σ3 _:=Same.new (o:=.list (numL (gen (a.val F).length fun i=>if at0 (a.val F) i=at0 (b.val F) i∧at0 (a.val F) i<2 then at0 (a.val F) i else 3))) n4
   have e4:=u0c (σ:=σ3) (a:=a4) (o:=.list (numL (gen (a.val F).length fun i=>if at0 (a.val F) i=at0 (b.val F) i∧at0 (a.val F) i<2 then at0 (a.val F) i else 3)))
   generalize σ3.put a4 _=σ4 at s4 e4
   have s04:=(s0.trans s1).trans (s2.trans (s3.trans s4))
   intro a5 n5
   have s5:Same [] σ4 _:=Same.new (o:=.list [.ref a2,.ref a1,.ref a3,.ref a4]) n5
   refine or3 hx (fun zz508=>?_) (fun zz509=>?_) (fun zz510=>?_)
   ·subst zz508
    refine u0l 0 u0c rfl (by decide) rfl ?_
    exact q _ _ ((s0.trans s1).none n2) (s04.trans s5) (s5 _ _ (s4 _ _ h2 (by simp)) (by simp))
   ·subst zz509
    refine u0l 1 u0c rfl (by decide) rfl ?_
    exact q _ _ (s0.none n1) (s04.trans s5) (s5 _ _ (s4 _ _ h1 (by simp)) (by simp))
   ·subst zz510
    refine u0l 3 u0c rfl (by decide) rfl ?_
    exact q _ _ (((s0.trans s1).trans (s2.trans s3)).none n4) (s04.trans s5) (s5 _ _ e4 (by simp))
 |slc h ih=>
  intro r σ Q E t hr hf q
  have hd:e.deep+1+4≤r:=hr
  exact w1p (by walk_at"om") (h.ok hF).2 (fun q=>ih (by walk_at"om") hf q) q
theorem u5w {F:List (List Nat)} (hF:Fr4 F) {fr:Addr} {l:List Addr} {e:Ex} {w r:Nat} {σ:Hp} {Q E:MV→Hp→Prop} {t:Tk Q E} (he:XOk e w) (hr:10≤r) (hf:LFr σ fr l F) (q:NewL σ (e.val F) Q):CS1 c.toCx r (.ref A.f__law_value) [e.mv,.ref fr] σ Q E t:=
 x1d hF he.wf (Nat.le_trans (Nat.add_le_add_right he.dp 4) hr) hf q
end
section
variable {c:CX} {r:Nat} {σ:Hp} {Q E:MV→Hp→Prop} {t:Tk Q E}
noncomputable def stO (f:Nat) (B:MV):MObj:=.list [.int f,.bool false,B]
theorem x3t {sa:Addr} {f:Nat} {B:MV} (hr:1≤r) (h:σ sa=some (stO f B)) (q0:f=0→Q (.bool true) (σ.put sa (.list [.int (-1),.bool true,B]))) (q1:∀m,f=m+1→Q (.bool false) (σ.put sa (stO m B))):
  CS1 c.toCx r (.ref A.f__law_burnt) [.ref sa] σ Q E t:=by
 refine v0v (by walk_at"om") ?_
 walk_at"st"
 refine u0l 0 h rfl (by decide) rfl ?_
 walk_at"mini"
 have fin:∀d:Bool,(∀σ1,σ1 sa=some (.list [.int f,.bool d,B])→Q (.bool d) (σ1.put sa (.list [.int ((f:Int)- 1),.bool d,B]))→swps Tb (CSf c.toCx) (r- 1) (hide M.z2i) [some (.ref sa)] σ1 (retQ Q) fun x _ σ1=>E x σ1):=fun d σ1 g q=>by
  walk_at"st"
  refine u0l 0 g rfl (by decide) rfl ?_
  walk_at"mini"
  refine v0z 0 g rfl (by decide) (Nat.le_of_ble_eq_true rfl) ?_
  walk_at"mini"
  walk_at"st"
  exact u0l 1 u0c rfl (by decide) rfl q
 refine u2c (fun z=>?_) fun z=>?_
 ·obtain rfl:f=0:=by lia
  walk_at"st"
  refine v0z 1 h rfl (by decide) (Nat.le_of_ble_eq_true rfl) ?_
  walk_at"mini"
  exact fin true _ u0c (by rw [u2h];exact q0 rfl)
 ·obtain⟨m,rfl⟩:∃m,f=m+1:=⟨f- 1,by lia⟩
  have e:((m+1:Nat):Int)- 1=(m:Int):=by lia
  refine fin false _ h ?_
  rw [e]
  exact q1 m rfl
noncomputable def w8i (kd:Nat):List Nat:=if kd=77 then[]else if kd=135 then[2]else[2,3]
noncomputable def inL (l:List Nat) (x:Nat):Bool:=(numL l).any fun z=>z.beq (.int (x:Nat))
theorem w8t:∀x,x<4→∀y,y<4→∀kd ∈[77,135,136],fitC kd x y=(x==y||inL (w8i kd) x||inL (w8i kd) y):=by
 unfold fitC inL w8i numL
 decide+kernel
theorem w4o {n:Nat} {l:List Nat}:(MV.int (n:Int)).isData 8=true∧u1d (numL l)=true:=⟨rfl,u4o l⟩
theorem w4l {T:Tab} {CS:u1n} {loc:Loc} {e:ME} {a b:List MS} {QS:Out→Loc→Hp→Prop} {ES:MV→Loc→Hp→Prop} (h:twp T CS r e loc σ (fun t σ1=>if t then swps T CS r a loc σ1 QS ES else swps T CS r b loc σ1 QS ES) (fun x σ1=>ES x loc σ1)):swp T CS r (.ite e a b) loc σ QS ES:=h
theorem w4c {x y:Nat} {f:Addr} {l:List Nat} {l0 l1 l2:Option MV} {K:Bool→Hp→Prop} {K':MV→Hp→Prop} (g:σ f=some (.list (numL l))) (q:K (!(x==y||inL l x||inL l y)) σ):
  twp Tb (CSf c.toCx) r (.and [.cmp .NotEq (.loc 4) (.loc 5),.cmp .NotIn (.loc 4) (.loc 3),.cmp .NotIn (.loc 5) (.loc 3)]) [l0,l1,l2,some (.ref f),some (.int (x:Nat)),some (.int (y:Nat))] σ K K':=by
 walk_at"mini"
 by_cases h:x=y
 ·rw [beq_iff_eq.mpr h]at q
  rw [decide_eq_true (congrArg _ h:(x:Int)=y)]
  exact q
 ·rw [beq_eq_false_iff_ne.mpr h]at q
  rw [decide_eq_false (fun z=>h (Int.ofNat_inj.mp z))]
  refine⟨_,g,w4o,?_⟩
  replace q:K (!(inL l x||inL l y)) σ:=q
  show if((!inL l x)==true)=true then _ else K (!inL l x) σ
  cases k:inL l x with
  |true=>rw [k]at q;exact q
  |false=>
   rw [k]at q
   refine⟨_,g,w4o,?_⟩
   show if((!inL l y)==true)=true then _ else K (!inL l y) σ
   cases k2:inL l y with
   |true=>rw [k2]at q;exact q
   |false=>rw [k2]at q;exact q
theorem x1u {a b:Addr} {u v:List Nat} {kd:Nat} (hk:kd ∈[77,135,136]) (hr:2≤r) (h1:σ a=some (.list (numL u))) (h2:σ b=some (.list (numL v))) (hu:Ok u) (hv:Ok v) (hl:u.length=v.length) (hl20:u.length≤20) (q:∀σ',Same [] σ σ'→Q (.bool (u1h kd u v)) σ'):
  CS1 c.toCx r (.ref A.f__law_meets) [.sym kd,.ref a,.ref b] σ Q E t:=by
 refine v0t (by walk_at"om") ?_
 walk_at"st"
 rw [e_dK]
 walk_at"mini"
 intro a0 n0 a1 n1 a2 n2 d nd
 have s2:=(Same.new (F:=[]) (o:=.list []) n0).trans ((Same.new (o:=.list [.int 2]) n1).trans (Same.new (o:=.list [.int 2,.int 3]) n2))
 have g0:∃f,([77,135,136].zip [MV.ref a0,.ref a1,.ref a2]).lookup kd=some (.ref f)∧(((σ.put a0 (.list [])).put a1 (.list [.int 2])).put a2 (.list [.int 2,.int 3])) f=some (.list (numL (w8i kd))):=by
  rcases List.mem_cons.mp hk with rfl|hk
  ·exact⟨a0,rfl,(u0g (fun z=>by rw [←z,u0g (fun z=>by rw [←z,u0c]at n1;cases n1),u0c]at n2;cases n2)).trans ((u0g (fun z=>by rw [←z,u0c]at n1;cases n1)).trans u0c)⟩
  rcases List.mem_cons.mp hk with rfl|hk
  ·exact⟨a1,rfl,(u0g (fun z=>by rw [←z,u0c]at n2;cases n2)).trans u0c⟩
  obtain rfl:=List.mem_singleton.mp hk
  exact⟨a2,rfl,u0c⟩
 generalize ((σ.put a0 (.list [])).put a1 (.list [.int 2])).put a2 (.list [.int 2,.int 3])=σ2 at*
 refine u0d g0 fun f l1 g=>?_
 have s3:=s2.trans (Same.new (o:=.dS ([77,135,136].zip [MV.ref a0,.ref a1,.ref a2])) nd)
 refine .inr ⟨kd,_,_,rfl,u0c,l1,?_⟩
 replace g:=(Same.new (F:=[]) (o:=.dS ([77,135,136].zip [MV.ref a0,.ref a1,.ref a2])) nd) _ _ g (by simp)
 generalize σ2.put d _=σ3 at*
 replace h1:=s3 _ _ h1 (by simp)
 replace h2:=s3 _ _ h2 (by simp)
 walk_at"mini"
 walk_at"st"
 refine u0v (by walk_at"om") ?_
 walk_at"mini"
 refine⟨_,_,_,_,rfl,rfl,h1,h2,?_⟩
 refine u3a (fun i l s=>∃l4 l5,l=[some (.sym kd),some (.ref a),some (.ref b),some (.ref f),l4,l5]∧s=σ3∧∀j,j<i→fitC kd (at0 u j) (at0 v j)=true) ⟨_,_,rfl,rfl,fun j hj=>by cases hj⟩ (fun _ _ _ z=>by refine u1c z fun _ _ _ zz501 _=>?_;subst zz501;exact⟨h1,h2⟩) ?_ ?_
 ·intro i x l s hx zz2018
  refine u1c zz2018 fun l4 l5 zz3001 zz3002 hj=>?_
  subst zz3001
  subst zz3002
  refine u0a (w1n hl hx) fun hi zz502=>?_
  subst zz502
  have e:=w8t _ (u1a hu i) _ (u1a hv i) kd hk
  have more:fitC kd (at0 u i) (at0 v i)=true→∀j,j<i+1→fitC kd (at0 u j) (at0 v j)=true:=fun z j hj'=>by
   by_cases e:j=i
   ·rw [e];exact z
   ·exact hj j (by walk_at"om")
  refine⟨by walk_at"om",?_⟩
  walk_at"mini"
  refine s_last rfl (w4l (w4c g ?_))
  rw [←e]
  cases z:fitC kd (at0 u i) (at0 v i)with
  |true=>exact⟨_,_,rfl,rfl,more z⟩
  |false=>
   walk_at"mini"
   repeat walk_at"st"
   have e:u1h kd u v=false:=by
    cases k:u1h kd u v with
    |false=>rfl
    |true=>rw [List.all_eq_true.mp k i (List.mem_range.mpr hi)]at z;cases z
   have:=q _ s3
   rw [e]at this
   exact this
 ·intro l s zz2019
  refine u1c zz2019 fun l4 l5 zz3003 zz3004 hj=>?_
  subst zz3003
  subst zz3004
  rw [v5i hl]at hj
  walk_at"mini"
  walk_at"st"
  have e:u1h kd u v=true:=List.all_eq_true.mpr fun i hi=>hj i (List.mem_range.mp hi)
  have:=q _ s3
  rw [e]at this
  exact this
end
inductive St where
 |nil
 |dis (k:Nat)
 |set (w i:Nat) (lo:Int) (e:Ex)
 |ite (k:Ex) (a b:St)
 |case(kd:Nat) (v l1 l2 l3:Ex) (a b c:St)
 |whl (k:Ex) (b:St)
 |rep (e:Ex) (sg:Bool) (b:St)
 |for (a:St) (k:Ex) (s b:St)
 |blk (a r:St) (sc:Int)
 |seq (a r:St)
noncomputable def v5p (x:MV) (y:MV):MV:=match y with
 |.tup xs=>.tup (x::xs)
 |_=>.tup [x]
noncomputable def St.mv:St→MV
 |.nil=>.none
 |.dis k=>.tup [.sym 82,.int k]
 |.set w i lo e=>.tup [.sym 74,.tup [.sym 119,.int w,.tup [.tup [.sym 34,.int w,.int i,.none,.tup [.sym 5,.int lo]]]],e.mv,.none]
 |.ite k a b=>.tup [.sym 76,k.mv,a.mv,b.mv]
 |.case kd v l1 l2 l3 a b c=>.tup [.sym 77,.sym kd,v.mv,.tup [.tup [.tup [l1.mv,l2.mv],a.mv],.tup [.none,b.mv],.tup [.tup [l3.mv],c.mv]]]
 |.whl k b=>.tup [.sym 79,k.mv,b.mv]
 |.rep e sg b=>.tup [.sym 80,e.mv,.bool sg,b.mv]
 |.for a k s b=>.tup [.sym 78,a.mv,k.mv,s.mv,b.mv]
 |.blk a r sc=>.tup [.sym 75,v5p a.mv r.mv,.int sc]
 |.seq a r=>v5p a.mv r.mv
inductive St.Wf:Bool→Nat→St→Prop
 |nil {b:Bool} {n:Nat}:Wf b n .nil
 |dis {n k:Nat}:Wf false n (.dis k)
 |set {n w i:Nat} {lo:Int} {e:Ex} (hi:i<4) (hw:w≤4) (hlo: -1≤lo∧lo≤4) (he:XOk e w):Wf false n (.set w i lo e)
 |ite {n:Nat} {k:Ex} {a b:St} (hk:XOk k 1) (ha:Wf false n a) (hb:Wf false n b):Wf false (n+1) (.ite k a b)
 |case{n kd:Nat} {v l1 l2 l3:Ex} {a b c:St} (hd:kd ∈[77,135,136]) (hv:XOk v 4) (h1:XOk l1 4) (h2:XOk l2 4) (h3:XOk l3 4) (ha:Wf false n a) (hb:Wf false n b) (hc:Wf false n c):Wf false (n+1) (.case kd v l1 l2 l3 a b c)
 |whl {n:Nat} {k:Ex} {b:St} (hk:XOk k 1) (hb:Wf false n b):Wf false (n+1) (.whl k b)
 |rep {n:Nat} {e:Ex} {sg:Bool} {b:St} (he:XOk e 4) (hb:Wf false n b):Wf false (n+1) (.rep e sg b)
 |for {n:Nat} {a:St} {k:Ex} {s b:St} (ha:Wf false n a) (hk:XOk k 1) (hs:Wf false n s) (hb:Wf false n b):Wf false (n+1) (.for a k s b)
 |blk {n:Nat} {a r:St} {sc:Int} (ha:Wf false n a) (hr:Wf true n r):Wf false (n+1) (.blk a r sc)
 |seq {n:Nat} {a r:St} (ha:Wf false n a) (hr:Wf true n r):Wf true n (.seq a r)
abbrev Fm:=List (List Nat)
abbrev Res:=Option (Option Nat×Fm×Nat)
noncomputable def bnd (x:Res) (k:Option Nat→Fm→Nat→Res):Res:=match x with
 |some (g,F,f)=>k g F f
 |none=>none
noncomputable def burn (f:Nat) (k:Nat→Res):Res:=match f with
 |0=>none
 |m+1=>k m
noncomputable def onG (g:Option Nat) (F:Fm) (f:Nat) (k:Res):Res:=match g with
 |none=>k
 |some x=>some (some x,F,f)
noncomputable def tst (k:Ex) (F:Fm):Bool:=k.val F==[1]
noncomputable def v0c (t:Fm→Bool) (b s:Fm→Nat→Res):Nat→Fm→Nat→Res
 |0,F,f=>some (none,F,f)
 |n+1,F,f=>if t F then burn f fun f=>bnd (b F f) fun g F f=>onG g F f (bnd (s F f) fun _ F f=>v0c t b s n F f)else some (none,F,f)
noncomputable def repN (b:Fm→Nat→Res):Nat→Fm→Nat→Res
 |0,F,f=>some (none,F,f)
 |n+1,F,f=>burn f fun f=>bnd (b F f) fun g F f=>onG g F f (repN b n F f)
noncomputable def cntC (cs:List Nat) (sg:Bool):Nat:=if u0k cs then(if sg && decide (7<lo2 cs)then 0 else lo2 cs)else 0
noncomputable def outB (sc:Int) (g:Option Nat):Option Nat:=match g with
 |none=>none
 |some k=>if(k:Int)=sc then none else some k
noncomputable def St.run:St→Fm→Nat→Res
 |.nil=>fun F f=>some (none,F,f)
 |.dis k=>fun F f=>burn f fun f=>some (some k,F,f)
 |.set _ i lo e=>fun F f=>burn f fun f=>some (none,F.set i (putC (F.getD i []) lo (e.val F)),f)
 |.ite k a b=>fun F f=>burn f fun f=>if tst k F then a.run F f else b.run F f
 |.case kd v l1 l2 l3 a b c=>fun F f=>burn f fun f=>if u1h kd (v.val F) (l1.val F)||u1h kd (v.val F) (l2.val F)then a.run F f else if u1h kd (v.val F) (l3.val F)then c.run F f else b.run F f
 |.whl k b=>fun F f=>burn f fun f=>v0c (tst k) b.run (fun F f=>some (none,F,f)) 200 F f
 |.rep e sg b=>fun F f=>burn f fun f=>repN b.run (cntC (e.val F) sg) F f
 |.for a k s b=>fun F f=>burn f fun f=>bnd (a.run F f) fun _ F f=>v0c (tst k) b.run s.run 200 F f
 |.blk a r sc=>fun F f=>burn f fun f=>bnd (bnd (a.run F f) fun g F f=>onG g F f (r.run F f)) fun g F f=>some (outB sc g,F,f)
 |.seq a r=>fun F f=>bnd (a.run F f) fun g F f=>onG g F f (r.run F f)
noncomputable def gmv (g:Option Nat):MV:=match g with
 |none=>.none
 |some k=>.int k
structure LDis (sa fr:Addr) (l:List Addr):Prop where
 nd:∀(i j:Nat) (a:Addr),l[i]?=some a→l[j]?=some a→i=j
 n1:sa≠fr
 n2:sa ∉ l
 n3:fr ∉ l
structure LS (σ:Hp) (sa fr:Addr) (l:List Addr) (B:MV) (F:Fm) (f:Nat):Prop where
 fr4:Fr4 F
 at_:LFr σ fr l F
 st:σ sa=some (stO f B)
noncomputable def w7k (n:Int) (B:MV):MObj:=.list [.int n,.bool true,B]
structure LQ (σ:Hp) (sa fr:Addr) (l:List Addr) (B:MV) (R:Res) (Q:MV→Hp→Prop):Prop where
 over:R=none→∀σ' n,Same (sa::l) σ σ'→σ' sa=some (w7k n B)→Q .none σ'
 done:∀g F f,R=some (g,F,f)→∀σ',Same (sa::l) σ σ'→LS σ' sa fr l B F f→Q (gmv g) σ'
section
variable {σ σ1:Hp} {sa fr:Addr} {l:List Addr} {B:MV} {F:Fm} {f:Nat} {R:Res} {Q Q1:MV→Hp→Prop}
theorem LQ.up (q:LQ σ sa fr l B R Q) (s:Same (sa::l) σ σ1):LQ σ1 sa fr l B R Q:=⟨fun e σ' n s' h=>q.over e σ' n (s.trans s') h,fun g F f e σ' s' h=>q.done g F f e σ' (s.trans s') h⟩
theorem LQ.seq {k:Option Nat→Fm→Nat→Res} (q:LQ σ sa fr l B (bnd R k) Q) (h0:∀σ1 n,σ1 sa=some (w7k n B)→Q .none σ1→Q1 .none σ1)
  (h:∀g F f σ1,Same (sa::l) σ σ1→LS σ1 sa fr l B F f→LQ σ1 sa fr l B (k g F f) Q→Q1 (gmv g) σ1):LQ σ sa fr l B R Q1:=by
 refine⟨fun e σ' n s hs=>?_,fun g F f e σ' s hs=>?_⟩
 ·subst e
  exact h0 _ _ hs (q.over rfl _ _ s hs)
 ·subst e
  exact h g F f σ' s hs (LQ.up q s)
theorem LQ.ret {g:Option Nat} (q:LQ σ sa fr l B (some (g,F,f)) Q) (h:LS σ sa fr l B F f):Q (gmv g) σ:=q.done _ _ _ rfl _ (Same.refl _ _) h
theorem LS.up (h:LS σ sa fr l B F f) (s:Same [] σ σ1):LS σ1 sa fr l B F f:=⟨h.fr4,h.at_.up s,s _ _ h.st (by simp)⟩
theorem LS.burn {m:Nat} (h:LS σ sa fr l B F f) (d:LDis sa fr l):LS (σ.put sa (stO m B)) sa fr l B F m:=by
 refine⟨h.fr4,⟨(u0g (Ne.symm d.n1)).trans h.at_.top,h.at_.len,fun i a cs e1 e2=>(u0g (fun z=>d.n2 (by rw [←z];exact List.mem_of_getElem? e1))).trans (h.at_.cell i a cs e1 e2)⟩,u0c⟩
end
section
variable {c:CX} {r:Nat} {σ:Hp} {Q E:MV→Hp→Prop} {t:Tk Q E} {sa fr:Addr} {l:List Addr} {B:MV} {F:Fm} {f:Nat}
theorem v7g {k:Nat→Res} {Q1:MV→Hp→Prop} {t:Tk Q1 E} (hr:1≤r) (d:LDis sa fr l) (h:LS σ sa fr l B F f) (q:LQ σ sa fr l B (burn f k) Q) (h0:∀σ1 n,σ1 sa=some (w7k n B)→Q .none σ1→Q1 (.bool true) σ1)
  (h1:∀m σ1,LS σ1 sa fr l B F m→LQ σ1 sa fr l B (k m) Q→Q1 (.bool false) σ1):CS1 c.toCx r (.ref A.f__law_burnt) [.ref sa] σ Q1 E t:=by
 have s0:∀o,Same (sa::l) σ (σ.put sa o):=fun o=>Same.put.mono fun a ha=>by rw [List.mem_singleton.mp ha];exact .head _
 refine x3t hr h.st (fun e=>?_) fun m e=>?_
 ·subst e
  exact h0 _ _ u0c (q.over rfl _ _ (s0 _) u0c)
 ·subst e
  exact h1 m _ (h.burn d) (LQ.up q (s0 _))
theorem u3l {tag:Nat} {rest:List MV} {k:Nat→Res} (hr:2≤r) (d:LDis sa fr l) (h:LS σ sa fr l B F f) (q:LQ σ sa fr l B (burn f k) Q)
  (h1:∀m σ1,LS σ1 sa fr l B F m→LQ σ1 sa fr l B (k m) Q→swps Tb (CSf c.toCx) (r- 1) M.z2g [some (.tup (.sym tag::rest)),some (.ref fr),some (.ref sa),none,none,none,none,none,none,none,none,none,none,none,none,none,none,none,none,none] σ1 (retQ Q) fun x _ σ1=>E x σ1):
  CS1 c.toCx r (.ref A.f__law_run) [.tup (.sym tag::rest),.ref fr,.ref sa] σ Q E t:=by
 refine u7u (by walk_at"om") ?_
 walk_at"st"
 refine v7g (by walk_at"om") d h q (fun σ1 n h q=>?_) fun m σ1 h q=>?_
 ·walk_at"mini"
  repeat walk_at"st"
  exact q
 ·walk_at"mini"
  rw [u0w M.z2g]
  exact h1 m σ1 h q
theorem x0k (hr:1≤r) (q:Q .none σ):CS1 c.toCx r (.ref A.f__law_run) [.none,.ref fr,.ref sa] σ Q E t:=by
 refine u7u (by walk_at"om") ?_
 repeat walk_at"st"
 exact q
end
theorem x3v {bs:List Nat} {k j:Nat} (h:j<k):at0 (bs.take k) j=at0 bs j:=by
 unfold at0
 rw [List.getElem?_take,if_pos h]
theorem x9b {cs:List Nat} {x i j:Nat} (h:i<cs.length):at0 (cs.set i x) j=if i=j then x else at0 cs j:=by
 unfold at0
 rw [List.getElem?_set]
 by_cases e:i=j
 ·rw [if_pos e,if_pos e,if_pos h];rfl
 ·rw [if_neg e,if_neg e]
theorem u6o {cs bs:List Nat} {lo:Int} {k i:Nat} (hk:k≤bs.length) (hi:i<cs.length):at0 (putC cs lo (bs.take k)) i=if lo≤i∧(i:Int)<lo+k then at0 bs ((i:Int)- lo).toNat else at0 cs i:=by
 unfold putC
 rw [u2i,if_pos hi,List.length_take,Nat.min_eq_left hk]
 by_cases h:lo≤i∧(i:Int)<lo+k
 ·rw [if_pos h,if_pos h,x3v (by walk_at"om")]
 ·rw [if_neg h,if_neg h]
theorem x5g {cs bs:List Nat} {lo:Int} {k n:Nat} (hk:k<bs.length) (e:lo+k=n) (hn:n<cs.length):(putC cs lo (bs.take k)).set n (at0 bs k)=putC cs lo (bs.take (k+1)):=by
 refine u2m (by rw [List.length_set,u0y,u0y]) fun i hi=>?_
 rw [List.length_set,u0y]at hi
 rw [x9b (by rw [u0y];exact hn),u6o (Nat.le_of_lt hk) hi,u6o hk hi]
 by_cases h:n=i
 ·subst h
  rw [if_pos rfl,if_pos (by walk_at"om")]
  congr 1
  lia
 ·rw [if_neg h]
  by_cases h2:lo≤i∧(i:Int)<lo+k
  ·rw [if_pos h2,if_pos (by walk_at"om")]
  ·rw [if_neg h2,if_neg (by walk_at"om")]
theorem w3k {cs bs:List Nat} {lo:Int} {k:Nat} (hk:k<bs.length) (h:¬(0≤lo+k∧lo+k<cs.length)):putC cs lo (bs.take k)=putC cs lo (bs.take (k+1)):=by
 refine u2m (by rw [u0y,u0y]) fun i hi=>?_
 rw [u0y]at hi
 rw [u6o (Nat.le_of_lt hk) hi,u6o hk hi]
 by_cases h2:lo≤i∧(i:Int)<lo+k
 ·rw [if_pos h2,if_pos (by walk_at"om")]
 ·rw [if_neg h2,if_neg (by walk_at"om")]
theorem Fr4.set {F:Fm} (h:Fr4 F) {i:Nat} {cs:List Nat} (hc:Ok cs∧cs.length=4):Fr4 (F.set i cs):=
 ⟨by rw [List.length_set];exact h.len,fun x hx=>by exact(List.mem_or_eq_of_mem_set hx).elim (h.ok x) fun z=>z▸hc⟩
section
variable {σ σ1:Hp} {sa fr:Addr} {l:List Addr} {B:MV} {F:Fm} {f:Nat}
theorem LS.write {i:Nat} {a:Addr} {cs:List Nat} (h:LS σ sa fr l B F f) (d:LDis sa fr l) (hi:l[i]?=some a) (hc:Ok cs∧cs.length=4) (s:Same [a] σ σ1) (e:σ1 a=some (.list (numL cs))):LS σ1 sa fr l B (F.set i cs) f:=by
 have ha:=List.mem_of_getElem? hi
 refine⟨h.fr4.set hc,⟨s _ _ h.at_.top (fun z=>d.n3 (by rw [List.mem_singleton.mp z];exact ha)),by rw [List.length_set];exact h.at_.len,fun j b xs e1 e2=>?_⟩,s _ _ h.st fun z=>d.n2 (by rw [List.mem_singleton.mp z];exact ha)⟩
 rw [List.getElem?_set]at e2
 by_cases hij:i=j
 ·subst hij
  rw [if_pos rfl]at e2
  split at e2
  ·cases e2
   rw [hi]at e1
   cases e1
   exact e
  ·cases e2
 ·rw [if_neg hij]at e2
  refine s _ _ (h.at_.cell j b xs e1 e2) fun z=>hij (d.nd i j a hi ?_)
  rw [e1,List.mem_singleton.mp z]
end
section
variable {c:CX} {r:Nat} {σ:Hp} {Q E:MV→Hp→Prop} {t:Tk Q E} {sa fr:Addr} {l:List Addr} {B:MV} {F:Fm} {f:Nat}
theorem w1o {w i:Nat} {lo:Int} {ab a:Addr} {cs bs:List Nat} {l0 l3 l6:Option MV} {ls:Loc} {x:MV} {QS:Out→Loc→Hp→Prop} {ES:MV→Loc→Hp→Prop} {t:TkS QS ES} (hr:r≠0) (h1:σ fr=some (.list (l.map MV.ref))) (h2:l[i]?=some a) (hi:i<4) (h3:σ a=some (.list (numL cs))) (h4:cs.length=4) (hb:σ ab=some (.list (numL bs)))
  (hne:ab≠a) (hfa:fr≠a) (hw:bs.length=w) (hw4:w≤4) (hlo: -1≤lo∧lo≤4) (q:∀loc σ',Same [a] σ σ'→σ' a=some (.list (numL (putC cs lo bs)))→QS .next loc σ'):
  swpL Tb (CSf c.toCx) r (.for (.nm 9) .range (.loc 4) .none M.z2n) (l0::some (.ref fr)::some (.ref sa)::l3::some (.int w)::some (.int i)::l6::some (.tup [x,.int lo])::some (.ref ab)::none::ls) σ QS ES t:=by
 refine u0v hr ?_
 walk_at"mini"
 refine⟨⟨by lia,by lia⟩,?_⟩
 have hlen:((List.range (w:Int).toNat).map fun(i:Nat)=>MV.int (i:Int)).length=w:=by simp
 refine u3a (fun k loc s=>∃l9,loc=l0::some (.ref fr)::some (.ref sa)::l3::some (.int w)::some (.int i)::l6::some (.tup [x,.int lo])::some (.ref ab)::l9::ls∧Same [a] σ s∧s a=some (.list (numL (putC cs lo (bs.take k))))) ⟨_,rfl,Same.refl _ _,?_⟩ (fun _ _ _ _=>trivial) ?_ ?_
 ·rw [h3]
  have:putC cs lo (bs.take 0)=cs:=u2m u0y fun j hj=>by rw [u0y]at hj;rw [u6o (Nat.zero_le _) hj,if_neg (by walk_at"om")]
  rw [this]
 ·intro k y loc s hy zz2020
  refine u1e zz2020 fun l9 zz3001 hs hsa=>?_
  subst zz3001
  have hk:k<w:=by have:=(List.getElem?_eq_some_iff.mp hy).1;rw [hlen]at this;exact this
  obtain rfl:y=.int (k:Int):=by
   rw [List.getElem?_map,Int.toNat_natCast,List.getElem?_range hk]at hy
   exact(Option.some.inj hy).symm
  show setP _ _ _ _
  walk_at"mini"
  refine s_last rfl (w4l ?_)
  rw [x0b]
  walk_at"mini"
  have hkb:k<bs.length:=by rw [hw];exact hk
  refine u2c (fun z1=>?_) fun z=>⟨_,rfl,hs,by rw [←w3k hkb (by walk_at"om")];exact hsa⟩
  refine u2c (fun z2=>?_) fun z=>⟨_,rfl,hs,by rw [←w3k hkb (by walk_at"om")];exact hsa⟩
  obtain⟨n,hn⟩:∃n:Nat,lo+k=n:=⟨(lo+k).toNat,by lia⟩
  have hn4:n<cs.length:=by lia
  repeat walk_at"st"
  refine w4k k (hs _ _ hb (by simpa using hne)) rfl hkb (by walk_at"om") ?_
  walk_at"mini"
  refine u0l i (hs _ _ h1 (by simpa using hfa)) rfl (by walk_at"om") (v:=.ref a) (by rw [List.getElem?_map,h2];rfl) ?_
  refine v0z n hsa hn (by walk_at"om") (by rw [u0n,u0y];exact hn4) ?_
  walk_at"mini"
  refine⟨_,rfl,hs.trans Same.put,?_⟩
  rw [u0c,←x5g hkb hn hn4]
  unfold numL
  rw [List.map_set]
 ·intro loc s zz2021
  refine u1e zz2021 fun l9 zz3002 hs hsa=>?_
  subst zz3002
  rw [hlen,List.take_of_length_le (Nat.le_of_eq hw)]at hsa
  exact q _ s hs hsa
theorem x2t {e:Ex} {Q:MV→Hp→Prop} (q:∀k,(k==45)=false→Q (.sym k) σ):u4h e.mv (.int 0) σ Q:=by cases e<;>exact q _ rfl
theorem x6f {n w i:Nat} {lo:Int} {e:Ex} (hr:14≤r) (d:LDis sa fr l) (hi:i<4) (hw:w≤4) (hlo: -1≤lo∧lo≤4) (he:XOk e w) (h:LS σ sa fr l B F f) (q:LQ σ sa fr l B ((St.set w i lo e).run F f) Q):
  CS1 c.toCx r (.ref A.f__law_run) [(St.set w i lo e).mv,.ref fr,.ref sa] σ Q E t:=by
 refine u3l (by walk_at"om") d h q fun m σ1 h q=>?_
 walk_at"st"
 walk_at"st"
 refine⟨by walk_at"om",?_⟩
 walk_at"mini"
 walk_at"st"
 refine x2t fun k hk=>?_
 walk_at"mini"
 rw [hk]
 walk_at"mini"
 walk_at"st"
 refine u5w h.fr4 he (by walk_at"om") h.at_ fun ab σ2 nb s2 eb=>?_
 walk_at"mini"
 have h':=h.up s2
 walk_at"st"
 refine u0l 1 h'.st rfl (by decide) rfl ?_
 walk_at"mini"
 walk_at"st"
 refine u4i (h.fr4.at hi) fun cs e1 e2 ok l4=>?_
 have hil:i<l.length:=by rw [h.at_.len,h.fr4.len];exact hi
 have ha:=List.getElem?_eq_getElem hil
 have hc:=h'.at_.cell i _ cs ha e1
 have hbs:=he.wf.ok h.fr4
 have hfa:fr≠l[i]:=fun z=>d.n3 (by rw [z];exact List.getElem_mem hil)
 refine w1o (by walk_at"om") h'.at_.top ha hi hc l4 eb (Ne.symm (u0h (h.at_.cell i _ cs ha e1) nb)) hfa hbs.2 hw hlo fun loc σ3 s3 e3=>?_
 walk_at"mini"
 repeat walk_at"st"
 have w:=h'.write d ha ⟨v6g ok hbs.1 lo,u0y.trans l4⟩ s3 e3
 rw [←e2]at w
 exact(LQ.up q ((s2.mono fun _ z=>(by cases z)).trans (s3.mono fun b z=>by rw [List.mem_singleton.mp z];exact .tail _ (List.getElem_mem hil)))).ret w
end
theorem w9q:∀cs:List Nat,beqs (numL cs) [.int 1]=(cs==[1])
 |[]=>rfl
 |[x]=>by
  show(decide ((x:Int)=1) && true)=(x==1 && true)
  rw [Bool.and_true,Bool.and_true]
  by_cases h:x=1
  ·rw [h];rfl
  ·rw [decide_eq_false (by walk_at"om"),beq_eq_false_iff_ne.mpr h]
 |x::y::r=>by
  show(decide ((x:Int)=1) && false)=(x==1 && false)
  rw [Bool.and_false,Bool.and_false]
section
variable {c:CX} {r:Nat} {σ:Hp} {Q E:MV→Hp→Prop} {t:Tk Q E} {sa fr:Addr} {l:List Addr} {B:MV} {F:Fm} {f:Nat}
theorem w1r {k:Ex} {K:Bool→Hp→Prop} {t:Tk (fun v σ1=>newP (.list [.int 1]) σ1 fun o σ2=>cmpP .Eq v o σ2 fun b=>K b σ2) E} (hr:10≤r) (hk:XOk k 1) (h:LS σ sa fr l B F f) (q:∀σ',Same [] σ σ'→K (tst k F) σ'):
  CS1 c.toCx r (.ref A.f__law_value) [k.mv,.ref fr] σ (fun v σ1=>newP (.list [.int 1]) σ1 fun o σ2=>cmpP .Eq v o σ2 fun b=>K b σ2) E t:=by
 have hdp:=hk.dp
 refine u5w h.fr4 hk (by walk_at"om") h.at_ fun a σ1 n1 s1 e1 b n2=>?_
 have s2:Same [] σ1 _:=Same.new (o:=.list [.int 1]) n2
 refine⟨_,_,s2 _ _ e1 (by simp),u0c,⟨u4o _,rfl⟩,?_⟩
 rw [w9q]
 exact q _ (s1.trans s2)
theorem x4l {k:Ex} {K:Bool→Hp→Prop} {t:Tk (fun v σ1=>newP (.list [.int 1]) σ1 fun o σ2=>cmpP .NotEq v o σ2 fun b=>K b σ2) E} (hr:10≤r) (hk:XOk k 1) (h:LS σ sa fr l B F f) (q:∀σ',Same [] σ σ'→K (!tst k F) σ'):
  CS1 c.toCx r (.ref A.f__law_value) [k.mv,.ref fr] σ (fun v σ1=>newP (.list [.int 1]) σ1 fun o σ2=>cmpP .NotEq v o σ2 fun b=>K b σ2) E t:=w1r (K:=fun b σ=>K (!b) σ) (t:={}) hr hk h q
def LRun (c:CX) (n:Nat) (s:St):Prop:=∀(r:Nat) {σ:Hp} {Q E:MV→Hp→Prop} {t:Tk Q E} {sa fr:Addr} {l:List Addr} {B:MV} {F:Fm} {f:Nat},n≤r→LDis sa fr l→LS σ sa fr l B F f→LQ σ sa fr l B (s.run F f) Q→
 CS1 c.toCx r (.ref A.f__law_run) [s.mv,.ref fr,.ref sa] σ Q E t
theorem x6j {n k:Nat} (hn:2≤n):LRun c n (.dis k):=by
 intro r σ Q E t sa fr l B F f hr d h q
 refine u3l (by walk_at"om") d h q fun m σ1 h q=>?_
 repeat walk_at"st"
 exact q.ret h
theorem x6h {n:Nat} {k:Ex} {a b:St} (hn:14≤n) (hk:XOk k 1) (ha:LRun c n a) (hb:LRun c n b):LRun c (n+1) (.ite k a b):=by
 intro r σ Q E t sa fr l B F f hr d h q
 refine u3l (by walk_at"om") d h q fun m σ1 h q=>?_
 repeat walk_at"st"
 refine w1r (by walk_at"om") hk h fun σ2 s2=>?_
 have q:=LQ.up q (s2.mono (G:=sa::l) fun _ z=>(by cases z))
 have h:=h.up s2
 cases z:tst k F with
 |true=>rw [z]at q;exact ha (t:={}) _ (by walk_at"om") d h q
 |false=>rw [z]at q;exact hb (t:={}) _ (by walk_at"om") d h q
theorem w4g {k:Ex} {x b:MV} {x5 x6:Option MV} {R:Nat→Res} {K:Bool→Hp→Prop} {K':MV→Hp→Prop} (hr:10≤r) (hk:XOk k 1) (d:LDis sa fr l) (h:LS σ sa fr l B F f) (q:LQ σ sa fr l B (if tst k F then burn f R else some (none,F,f)) Q)
  (q0:∀σ',Q .none σ'→K true σ') (q1:∀m σ',LS σ' sa fr l B F m→LQ σ' sa fr l B (R m) Q→K false σ'):
  twp Tb (CSf c.toCx) r (.or [.cmp .NotEq (.call (.con (.ref A.f__law_value)) [.loc 0,.loc 3]) (.list [.int 1]),.call (.con (.ref A.f__law_burnt)) [.loc 4]]) [some k.mv,some x,some b,some (.ref fr),some (.ref sa),x5,x6] σ K K':=by
 walk_at"mini"
 refine x4l hr hk h fun σ2 s2=>?_
 have q:=LQ.up q (s2.mono (G:=sa::l) fun _ z=>(by cases z))
 have h:=h.up s2
 cases z:tst k F with
 |true=>
  rw [z]at q
  walk_at"mini"
  exact v7g (by walk_at"om") d h q (fun σ1 n _ q=>q0 _ q) fun m σ1 h q=>q1 m _ h q
 |false=>
  rw [z]at q
  exact q0 _ (q.ret h)
theorem w4f {n j:Nat} {k:Ex} {b s:St} {x5 x6:Option MV} {QS:Out→Loc→Hp→Prop} {ES:MV→Loc→Hp→Prop} (hn:14≤n) (hk:XOk k 1) (hb:LRun c n b) (hs:LRun c n s) (hr:n≤r) (d:LDis sa fr l) (h:LS σ sa fr l B F f) (q:LQ σ sa fr l B (v0c (tst k) b.run s.run (j+1) F f) Q)
  (q0:∀v l σ',Q v σ'→QS (.ret v) l σ') (q1:∀F f l6 σ',LS σ' sa fr l B F f→LQ σ' sa fr l B (v0c (tst k) b.run s.run j F f) Q→QS .next [some k.mv,some b.mv,some s.mv,some (.ref fr),some (.ref sa),x5,l6] σ'):
  swps Tb (CSf c.toCx) r M.z2j [some k.mv,some b.mv,some s.mv,some (.ref fr),some (.ref sa),x5,x6] σ QS ES:=by
 refine s_stepH rfl<|w4l (w4g (by walk_at"om") hk d h q (fun σ' q=>?_) fun m σ1 h q=>?_)
 ·walk_at"mini"
  repeat walk_at"st"
  exact q0 _ _ _ q
 ·walk_at"mini"
  walk_at"st"
  refine hb _ hr d h (LQ.seq q (fun σ2 n2 h2 q=>?_) fun g F f σ2 s2 h q=>?_)
  ·walk_at"mini"
   walk_at"st"
   refine u0l 1 h2 rfl (by decide) rfl ?_
   walk_at"mini"
   repeat walk_at"st"
   exact q0 _ _ _ q
  ·cases g with
   |some x=>
    unfold gmv
    walk_at"mini"
    walk_at"st"
    repeat walk_at"st"
    exact q0 _ _ _ (q.ret h)
   |none=>
    unfold gmv
    walk_at"mini"
    walk_at"st"
    refine u0l 1 h.st rfl (by decide) rfl ?_
    walk_at"mini"
    walk_at"st"
    refine hs _ hr d h (LQ.seq q (fun σ2 n2 h2 q=>?_) fun g F f σ2 s2 h q=>?_)
    ·walk_at"mini"
     walk_at"st"
     refine u0l 1 h2 rfl (by decide) rfl ?_
     walk_at"mini"
     repeat walk_at"st"
     exact q0 _ _ _ q
    ·walk_at"mini"
     walk_at"st"
     refine u0l 1 h.st rfl (by decide) rfl ?_
     walk_at"mini"
     exact q1 _ _ _ _ h q
theorem v8j {n:Nat} {k:Ex} {b s:St} (hn:14≤n) (hk:XOk k 1) (hb:LRun c n b) (hs:LRun c n s) (hr:n+1≤r) (d:LDis sa fr l) (h:LS σ sa fr l B F f) (q:LQ σ sa fr l B (v0c (tst k) b.run s.run 200 F f) Q):
  CS1 c.toCx r (.ref A.f__law_loop) [k.mv,b.mv,s.mv,.ref fr,.ref sa] σ Q E t:=by
 refine v2z (by walk_at"om") ?_
 walk_at"st"
 refine u0v (by walk_at"om") ?_
 walk_at"mini"
 refine⟨⟨by decide,by decide⟩,?_⟩
 refine u3a (fun i loc s1=>∃F f l5 l6,loc=[some k.mv,some b.mv,some s.mv,some (.ref fr),some (.ref sa),l5,l6]∧LS s1 sa fr l B F f∧LQ s1 sa fr l B (v0c (tst k) b.run s.run (200- i) F f) Q) ⟨F,f,_,_,rfl,h,q⟩ (fun _ _ _ _=>trivial) ?_ ?_
 ·intro i x loc s1 hx zz2022
  refine v6x zz2022 fun F f l5 l6 zz3001 h q=>?_
  subst zz3001
  have hi:i<200:=by have:=(List.getElem?_eq_some_iff.mp hx).1;simpa using this
  obtain⟨j,ej⟩:∃j,200- i=j+1:=⟨199- i,by lia⟩
  rw [ej]at q
  refine w4f hn hk hb hs (by walk_at"om") d h q (fun v l σ' q=>q) fun F f l6 σ' h q=>⟨F,f,_,_,rfl,h,?_⟩
  rw [show 200-(i+1)=j by lia]
  exact q
 ·intro loc s zz2023
  refine v6x zz2023 fun F f l5 l6 zz3002 h q=>?_
  subst zz3002
  walk_at"mini"
  repeat walk_at"st"
  rw [List.length_map,List.length_range]at q
  exact q.ret h
theorem v8e {n:Nat} (hn:1≤n):LRun c n .nil:=by
 intro r σ Q E t sa fr l B F f hr d h q
 exact x0k (by walk_at"om") (q.ret h)
theorem x6e {n:Nat} {k:Ex} {b:St} (hn:14≤n) (hk:XOk k 1) (hb:LRun c n b):LRun c (n+2) (.whl k b):=by
 intro r σ Q E t sa fr l B F f hr d h q
 refine u3l (by walk_at"om") d h q fun m σ1 h q=>?_
 repeat walk_at"st"
 exact v8j (s:=.nil) hn hk hb (v8e (by walk_at"om")) (by walk_at"om") d h q
theorem x6i {n:Nat} {k:Ex} {a b s:St} (hn:14≤n) (ha:LRun c n a) (hk:XOk k 1) (hs:LRun c n s) (hb:LRun c n b):LRun c (n+2) (.for a k s b):=by
 intro r σ Q E t sa fr l B F f hr d h q
 refine u3l (by walk_at"om") d h q fun m σ1 h q=>?_
 repeat walk_at"st"
 refine ha _ (by walk_at"om") d h (LQ.seq q (fun σ2 n2 h2 q=>?_) fun g F f σ2 s2 h q=>?_)
 ·walk_at"mini"
  walk_at"st"
  refine u0l 1 h2 rfl (by decide) rfl ?_
  walk_at"mini"
  exact q
 ·walk_at"mini"
  walk_at"st"
  refine u0l 1 h.st rfl (by decide) rfl ?_
  walk_at"mini"
  exact v8j hn hk hb hs (by walk_at"om") d h q
end
section
variable {c:CX} {r:Nat} {σ:Hp} {Q E:MV→Hp→Prop} {t:Tk Q E} {sa fr:Addr} {l:List Addr} {B:MV} {F:Fm} {f:Nat}
theorem w7g {n j:Nat} {b:St} {w x y:MV} {x5 x6 x7 x8 x9 x10 x11 x3 x4 x12 x13 x14 x15 x16 x17 x18 x19:Option MV} {QS:Out→Loc→Hp→Prop} {ES:MV→Loc→Hp→Prop} (hb:LRun c n b) (hr:n≤r) (h1:1≤r) (d:LDis sa fr l) (h:LS σ sa fr l B F f) (q:LQ σ sa fr l B (repN b.run (j+1) F f) Q)
  (q0:∀v l σ',Q v σ'→QS (.ret v) l σ') (q1:∀F f y11 σ',LS σ' sa fr l B F f→LQ σ' sa fr l B (repN b.run j F f) Q→QS .next [some (.tup [w,x,y,b.mv]),some (.ref fr),some (.ref sa),x3,x4,x5,x6,x7,x8,x9,x10,y11,x12,x13,x14,x15,x16,x17,x18,x19] σ'):
  swps Tb (CSf c.toCx) r M.z2k [some (.tup [w,x,y,b.mv]),some (.ref fr),some (.ref sa),x3,x4,x5,x6,x7,x8,x9,x10,x11,x12,x13,x14,x15,x16,x17,x18,x19] σ QS ES:=by
 walk_at"st"
 refine v7g h1 d h q (fun σ1 n _ q=>?_) fun m σ1 h q=>?_
 ·walk_at"mini"
  repeat walk_at"st"
  exact q0 _ _ _ q
 ·walk_at"mini"
  walk_at"st"
  refine hb _ hr d h (LQ.seq q (fun σ2 n2 h2 q=>?_) fun g F f σ2 s2 h q=>?_)
  ·walk_at"mini"
   walk_at"st"
   refine u0l 1 h2 rfl (by decide) rfl ?_
   walk_at"mini"
   repeat walk_at"st"
   exact q0 _ _ _ q
  ·cases g with
   |some x=>
    unfold gmv
    walk_at"mini"
    walk_at"st"
    repeat walk_at"st"
    exact q0 _ _ _ (q.ret h)
   |none=>
    unfold gmv
    walk_at"mini"
    walk_at"st"
    refine u0l 1 h.st rfl (by decide) rfl ?_
    walk_at"mini"
    exact q1 _ _ _ _ h q
theorem w7h {v:Nat} {sg:Bool} {w x y:MV} {loc:Loc} {K:Bool→Hp→Prop} {K':MV→Hp→Prop} (h0:loc[0]?=some (some (.tup [w,x,.bool sg,y]))) (h15:loc[15]?=some (some (.int v))) (q0:(sg && decide (7<v))=true→K true σ) (q1:(sg && decide (7<v))=false→K false σ):
  twp Tb (CSf c.toCx) r (.or [.cmp .Is (.loc 15) .none,.and [.item (.loc 0) (.int 2),.cmp .Gt (.loc 15) (.int 7)]]) loc σ K K':=by
 walk_at"mini"
 simp only [h0,h15]
 walk_at"mini"
 cases sg with
 |false=>exact q1 rfl
 |true=>
  walk_at"mini"
  by_cases z:7<v
  ·rw [decide_eq_true (by lia:(7:Int)<v)]
   exact q0 (decide_eq_true z)
  ·rw [decide_eq_false (by lia:¬(7:Int)<v)]
   exact q1 (decide_eq_false z)
theorem x6g {n:Nat} {e:Ex} {sg:Bool} {b:St} (hn:14≤n) (he:XOk e 4) (hb:LRun c n b):LRun c (n+1) (.rep e sg b):=by
 intro r σ Q E t sa fr l B F f hr d h q
 refine u3l (by walk_at"om") d h q fun m σ1 h q=>?_
 have hdp:=he.dp
 have ho:=he.wf.ok h.fr4
 repeat walk_at"st"
 refine u5w h.fr4 he (by walk_at"om") h.at_ fun a σ2 n2 s2 e2=>?_
 walk_at"mini"
 refine v2o (by walk_at"om") e2 ho.1 (by walk_at"om") ?_
 walk_at"mini"
 have q:=LQ.up q (s2.mono (G:=sa::l) fun _ z=>(by cases z))
 have h:=h.up s2
 rw [v1d]
 unfold cntC at q
 cases ku:u0k (e.val F)with
 |false=>
  walk_at"mini"
  repeat walk_at"st"
  rw [ku]at q
  exact q.ret h
 |true=>
  rw [ku]at q
  walk_at"mini"
  have hl:=w4h (e.val F)
  rw [ho.2]at hl
  generalize lo2 (e.val F)=v at*
  refine s_stepR rfl<|w4l (w7h rfl rfl (fun z=>?_) fun z=>?_)
  ·rw [z]at q
   walk_at"mini"
   repeat walk_at"st"
   exact q.ret h
  ·rw [z]at q
   replace q:LQ σ2 sa fr l B (repN b.run v F m) Q:=q
   walk_at"mini"
   walk_at"st"
   refine u0v (by walk_at"om") ?_
   walk_at"mini"
   refine⟨⟨by lia,by lia⟩,?_⟩
   refine u3a (fun i loc s1=>∃F f x11 x16,loc=[some (.tup [.sym 80,e.mv,.bool sg,b.mv]),some (.ref fr),some (.ref sa),none,none,none,none,none,none,none,none,x11,none,none,none,some (.int v),x16,none,none,none]∧LS s1 sa fr l B F f∧LQ s1 sa fr l B (repN b.run (v- i) F f) Q) ⟨F,m,_,_,rfl,h,q⟩ (fun _ _ _ _=>trivial) ?_ ?_
   ·intro i x loc s1 hx zz2024
    refine v6x zz2024 fun F f x11 x16 zz3001 h q=>?_
    subst zz3001
    have hi:i<v:=by have:=(List.getElem?_eq_some_iff.mp hx).1;simpa using this
    obtain⟨j,ej⟩:∃j,v- i=j+1:=⟨v- i- 1,by lia⟩
    rw [ej]at q
    refine w7g hb (by walk_at"om") (by walk_at"om") d h q (fun v l σ' q=>q) fun F f x11 σ' h q=>⟨F,f,_,_,rfl,h,?_⟩
    rw [show v-(i+1)=j by lia]
    exact q
   ·intro loc s zz2025
    refine v6x zz2025 fun F f x11 x16 zz3002 h q=>?_
    subst zz3002
    walk_at"mini"
    repeat walk_at"st"
    rw [List.length_map,List.length_range,Int.toNat_natCast,Nat.sub_self]at q
    exact q.ret h
end
inductive Lst (P:St→Prop):St→Prop
 |nil:Lst P .nil
 |seq {a r:St} (ha:P a) (hr:Lst P r):Lst P (.seq a r)
noncomputable def St.items:St→List MV
 |.seq a r=>a.mv::r.items
 |_=>[]
theorem v8m {P:St→Prop} {r:St} (h:Lst P r):∀x,v5p x r.mv=.tup (x::r.items):=by
 induction h with
 |nil=>exact fun x=>rfl
 |@seq a r ha hr ih=>
  intro x
  show v5p x (v5p a.mv r.mv)=.tup (x::a.mv::r.items)
  rw [ih a.mv];rfl
theorem w3r {k:Nat} {sc:Int} (h:(k:Int)=sc):outB sc (some k)=none:=if_pos h
theorem w3s {k:Nat} {sc:Int} (h:¬(k:Int)=sc):outB sc (some k)=some k:=if_neg h
theorem v7h {x:Res} {k k':Option Nat→Fm→Nat→Res}:bnd (bnd x k) k'=bnd x fun g F f=>bnd (k g F f) k':=by cases x<;>rfl
section
variable {c:CX} {r:Nat} {σ:Hp} {Q E:MV→Hp→Prop} {t:Tk Q E} {sa fr:Addr} {l:List Addr} {B:MV} {F:Fm} {f:Nat}
theorem v6n {n:Nat} {x:MV} {R0:Fm→Nat→Res} {u:St} {sc:Int} (hn:14≤n) (hr:n+1≤r) (hu:Lst (LRun c n) u) (d:LDis sa fr l) (h:LS σ sa fr l B F f) (q:LQ σ sa fr l B (burn f fun f=>bnd (bnd (R0 F f) fun g F f=>onG g F f (u.run F f)) fun g F f=>some (outB sc g,F,f)) Q)
  (hx:∀m {σ1:Hp} {Q E:MV→Hp→Prop} {t:Tk Q E},LS σ1 sa fr l B F m→LQ σ1 sa fr l B (R0 F m) Q→CS1 c.toCx (r- 1) (.ref A.f__law_run) [x,.ref fr,.ref sa] σ1 Q E t):
  CS1 c.toCx r (.ref A.f__law_run) [.tup [.sym 75,.tup (x::u.items),.int sc],.ref fr,.ref sa] σ Q E t:=by
 refine u3l (by walk_at"om") d h q fun m σ1 h1 q1=>?_
 clear h q
 walk_at"st"
 walk_at"st"
 walk_at"st"
 walk_at"st"
 walk_at"st"
 refine u0v (by walk_at"om") ?_
 walk_at"mini"
 refine⟨fun rest loc s1=>∃F' f x10 x11,loc=[some (.tup [.sym 75,.tup (x::u.items),.int sc]),some (.ref fr),some (.ref sa),none,none,none,none,none,none,none,x10,x11,none,none,none,none,none,none,none,none]∧LS s1 sa fr l B F' f∧
  ((rest=x::u.items∧F'=F∧LQ s1 sa fr l B (bnd (bnd (R0 F f) fun g F f=>onG g F f (u.run F f)) fun g F f=>some (outB sc g,F,f)) Q)∨∃w,rest=w.items∧Lst (LRun c n) w∧LQ s1 sa fr l B (bnd (w.run F' f) fun g F f=>some (outB sc g,F,f)) Q),⟨F,m,_,_,rfl,h1,.inl ⟨rfl,rfl,q1⟩⟩,fun _ _ _ _=>trivial,?_,?_⟩
 ·intro y rest loc s1 zz2026
  refine v6x zz2026 fun F' f x10 x11 zz3001 h z=>?_
  subst zz3001
  have z:∃w R,rest=w.items∧Lst (LRun c n) w∧LQ s1 sa fr l B (bnd (bnd R fun g F f=>onG g F f (w.run F f)) fun g F f=>some (outB sc g,F,f)) Q∧
    ∀{Q E:MV→Hp→Prop} {t:Tk Q E},LQ s1 sa fr l B R Q→CS1 c.toCx (r- 1) (.ref A.f__law_run) [y,.ref fr,.ref sa] s1 Q E t:=by
   refine Or.elim z (fun zz502=>?_) (fun zz503=>?_)
   ·refine u2k zz502 fun er zz3002 q=>?_
    subst zz3002
    cases er
    exact⟨u,_,rfl,hu,q,fun q=>hx _ h q⟩
   ·refine u1e zz503 fun w er hw q=>?_
    cases hw with
    |nil=>cases er
    |@seq a w ha hw=>
    cases er
    exact⟨w,_,rfl,hw,q,fun q=>ha _ (by walk_at"om") d h q⟩
  refine x2x z fun w R zz501 hw q hy=>?_
  subst zz501
  show setP _ _ _ _
  walk_at"mini"
  walk_at"st"
  rw [v7h]at q
  refine hy (LQ.seq q (fun σ2 n2 h2 q=>?_) fun g F f σ2 s2 h q=>?_)
  ·walk_at"mini"
   walk_at"st"
   refine u0l 1 h2 rfl (by decide) rfl ?_
   walk_at"mini"
   repeat walk_at"st"
   exact q
  ·walk_at"mini"
   walk_at"st"
   refine u0l 1 h.st rfl (by decide) rfl ?_
   walk_at"mini"
   cases g with
   |none=>
    unfold gmv
    walk_at"st"
    exact⟨F,f,_,_,rfl,h,.inr ⟨w,rfl,hw,q⟩⟩
   |some k=>
    replace q:=LQ.ret (g:=outB sc (some k)) q h
    unfold gmv
    walk_at"st"
    walk_at"st"
    refine u2c (fun z=>?_) fun z=>?_
    ·rw [w3r z]at q;exact q
    ·rw [w3s z]at q;exact q
 ·rintro loc s1 ⟨F',f,x10,x11,rfl,h,⟨er,_⟩|⟨w,er,hw,q⟩⟩
  ·cases er
  ·cases hw with
   |seq ha hu=>cases er
   |nil=>
   walk_at"mini"
   repeat walk_at"st"
   exact LQ.ret (g:=none) q h
theorem x6k {n:Nat} {a b:St} {sc:Int} (hn:14≤n) (ha:LRun c n a) (hb:Lst (LRun c n) b):LRun c (n+1) (.blk a b sc):=by
 intro r σ Q E t sa fr l B F f hr d h q
 have e:(St.blk a b sc).mv=.tup [.sym 75,.tup (a.mv::b.items),.int sc]:=by
  show MV.tup [.sym 75,v5p a.mv b.mv,.int sc]=_
  rw [v8m hb]
 rw [e]
 exact v6n (R0:=a.run) hn hr hb d h q fun m _ _ _ _ h q=>ha _ (by walk_at"om") d h q
end
section
variable {c:CX} {r:Nat} {σ:Hp} {Q E:MV→Hp→Prop} {t:Tk Q E} {sa fr:Addr} {l:List Addr} {B:MV} {F:Fm} {f:Nat}
theorem x2b {l:List Bool}:((l.map MV.bool).any fun x=>x.beq (.bool true))=l.any id:=by
 rw [List.any_map]
 congr 1
 funext b
 cases b<;>rfl
theorem w4p (l:List Bool):(MV.bool true).isData 8=true∧u1d (l.map MV.bool)=true:=⟨rfl,by
 unfold u1d
 induction l with
 |nil=>rfl
 |cons n r ih=>exact ih⟩
theorem w7y {kd:Nat} {av:Addr} {vv:List Nat} {x y:MV} {x3 x4 x5 x6 x7 x8 x9 x10 x11 x13 x14 x15 x16 x17 x18 x19:Option MV} (hk:kd ∈[77,135,136]) (hv:Ok vv∧vv.length=4) (hF:Fr4 F) (hr:10≤r) (es:List Ex):∀(acc:List Bool) (s:Hp),(∀e ∈ es,XOk e 4)→LFr s fr l F→s av=some (.list (numL vv))→acc.length+es.length≤9→
  (∀s',Same [] s s'→newP (.list ((acc++es.map fun e=>u1h kd vv (e.val F)).map MV.bool)) s' Q)→
  unrC Tb (CSf c.toCx) r (.call (.con (.ref A.f__law_meets)) [.item (.loc 0) (.int 1),.loc 12,.call (.con (.ref A.f__law_value)) [.loc 19,.loc 1]]) [19] true [] [some (.tup [.sym 77,.sym kd,x,y]),some (.ref fr),some (.ref sa),x3,x4,x5,x6,x7,x8,x9,x10,x11,some (.ref av),x13,x14,x15,x16,x17,x18,x19] Q (fun _=>True) (es.map Ex.mv) (acc.map MV.bool) s:=by
 induction es with
 |nil=>
  intro acc s he hf ha hn q
  have:=q s (Same.refl _ _)
  rw [List.map_nil,List.append_nil]at this
  exact⟨⟨trivial,by rw [List.length_map];unfold u0t;simp at hn;lia⟩,this⟩
 |cons e es ih=>
  intro acc s he hf ha hn q
  have h0:=he e (.head _)
  have hd:=h0.dp
  have ho:=h0.wf.ok hF
  refine⟨⟨trivial,by rw [List.length_map];unfold u0t;simp at hn;lia⟩,fun i hi=>by rw [List.mem_singleton.mp hi];exact Nat.le_of_ble_eq_true rfl,?_⟩
  simp only [List.set_cons_succ,List.set_cons_zero]
  walk_at"mini"
  refine u5w hF h0 (by walk_at"om") hf fun b s1 n1 s1' e1=>?_
  walk_at"mini"
  refine x1u hk (by walk_at"om") (s1' _ _ ha (by simp)) e1 hv.1 ho.1 (hv.2.trans ho.2.symm) (by walk_at"om") fun s2 s2'=>?_
  have s3:=s1'.trans s2'
  have:=ih (acc++[u1h kd vv (e.val F)]) s2 (fun e h=>he e (.tail _ h)) (hf.up s3) (s3 _ _ ha (by simp)) (by rw [List.length_append];simp at hn ⊢;lia) (fun s' h=>by
   have:=q s' (s3.trans h)
   rw [List.append_assoc]
   exact this)
  rw [List.map_append]at this
  exact this
theorem w7f {kd:Nat} {av:Addr} {vv:List Nat} {x y:MV} {x3 x4 x5 x6 x7 x8 x9 x10 x11 x13 x15 x16 x17 x18 x19:Option MV} {es:List Ex} {K:Bool→Hp→Prop} {K':MV→Hp→Prop} (hk:kd ∈[77,135,136]) (hv:Ok vv∧vv.length=4) (hF:Fr4 F) (hr:10≤r) (he:∀e ∈ es,XOk e 4) (hf:LFr σ fr l F) (ha:σ av=some (.list (numL vv))) (hn:es.length≤9)
  (q:∀s',Same [] σ s'→K (es.any fun e=>u1h kd vv (e.val F)) s'):
  twp Tb (CSf c.toCx) r (.and [.cmp .IsNot (.loc 14) .none,.cmp .In (.bool true) (.comp (.call (.con (.ref A.f__law_meets)) [.item (.loc 0) (.int 1),.loc 12,.call (.con (.ref A.f__law_value)) [.loc 19,.loc 1]]) [19] true .exp (.loc 14) .none [])]) [some (.tup [.sym 77,.sym kd,x,y]),some (.ref fr),some (.ref sa),x3,x4,x5,x6,x7,x8,x9,x10,x11,some (.ref av),x13,some (.tup (es.map Ex.mv)),x15,x16,x17,x18,x19] σ K K':=by
 walk_at"mini"
 refine u1o (by walk_at"om") ?_
 walk_at"mini"
 refine u6x (w7y hk hv hF hr es [] σ he hf ha (by simpa using hn) fun s' h b hb=>?_)
 walk_at"mini"
 refine⟨_,u0c,w4p _,?_⟩
 rw [x2b]
 rw [List.any_map]
 have k:∀(z:Bool) s,K z s→if(z==true)=true then K true s else K z s:=fun z s h=>by cases z<;>exact h
 exact k _ _ (q _ (h.trans (Same.new hb)))
theorem x5e {loc:Loc} {xs:List MV} {x:MV} {rest acc:List MV} (hl:loc.length=20) (ha:acc.length≤9) (h:unrC Tb (CSf c.toCx) r (.loc 18) [17,18] false [.cmp .Is (.loc 17) .none] loc Q (fun _=>True) rest acc σ):unrC Tb (CSf c.toCx) r (.loc 18) [17,18] false [.cmp .Is (.loc 17) .none] loc Q (fun _=>True) (.tup [.tup xs,x]::rest) acc σ:=by
 refine⟨⟨trivial,by unfold u0t;lia⟩,fun i hi=>?_,rfl,?_⟩
 ·refine Or.elim (List.mem_cons.mp hi) (fun e=>?_) (fun e=>?_)
  ·lia
  ·rw [List.mem_singleton.mp e];lia
 ·show u4u _ _ _ _ ((loc.set 17 (some (.tup xs))).set 18 (some x)) _ _
  walk_at"mini"
  rw [List.getElem?_set_ne (by decide),List.getElem?_set_self (by walk_at"om")]
  walk_at"mini"
  exact h
theorem x9z {loc:Loc} {x:MV} {rest acc:List MV} (hl:loc.length=20) (ha:acc.length≤9) (h:unrC Tb (CSf c.toCx) r (.loc 18) [17,18] false [.cmp .Is (.loc 17) .none] loc Q (fun _=>True) rest (acc++[x]) σ):unrC Tb (CSf c.toCx) r (.loc 18) [17,18] false [.cmp .Is (.loc 17) .none] loc Q (fun _=>True) (.tup [.none,x]::rest) acc σ:=by
 refine⟨⟨trivial,by unfold u0t;lia⟩,fun i hi=>?_,rfl,?_⟩
 ·refine Or.elim (List.mem_cons.mp hi) (fun e=>?_) (fun e=>?_)
  ·lia
  ·rw [List.mem_singleton.mp e];lia
 ·show u4u _ _ _ _ ((loc.set 17 (some .none)).set 18 (some x)) _ _
  walk_at"mini"
  rw [List.getElem?_set_ne (by decide),List.getElem?_set_self (by walk_at"om")]
  walk_at"mini"
  show locP ((loc.set 17 (some .none)).set 18 (some x))[18]? _
  rw [List.getElem?_set_self (by rw [List.length_set];lia)]
  exact h
theorem w9z {kd:Nat} {av ch:Addr} {vv:List Nat} {x y inn:MV} {x10 x14:Option MV} {es:List Ex} {rest:List MV} {QS:Out→Loc→Hp→Prop} {ES:MV→Loc→Hp→Prop} (hk:kd ∈[77,135,136]) (hv:Ok vv∧vv.length=4) (hF:Fr4 F) (hr:10≤r) (he:∀e ∈ es,XOk e 4) (hf:LFr σ fr l F) (ha:σ av=some (.list (numL vv))) (hn:es.length≤9)
  (q1:(es.any fun e=>u1h kd vv (e.val F))=true→∀ch' x14 s',Same [] σ s'→s' ch'=some (.list [inn])→unr Tb (CSf c.toCx) r (.tup [14,10]) M.z1x QS ES (fun _=>True) rest [some (.tup [.sym 77,.sym kd,x,y]),some (.ref fr),some (.ref sa),none,none,none,none,none,none,none,some inn,none,some (.ref av),some (.ref ch'),x14,none,none,none,none,none] s')
  (q0:(es.any fun e=>u1h kd vv (e.val F))=false→∀x14 s',Same [] σ s'→unr Tb (CSf c.toCx) r (.tup [14,10]) M.z1x QS ES (fun _=>True) rest [some (.tup [.sym 77,.sym kd,x,y]),some (.ref fr),some (.ref sa),none,none,none,none,none,none,none,some inn,none,some (.ref av),some (.ref ch),x14,none,none,none,none,none] s'):
  unr Tb (CSf c.toCx) r (.tup [14,10]) M.z1x QS ES (fun _=>True) (.tup [.tup (es.map Ex.mv),inn]::rest) [some (.tup [.sym 77,.sym kd,x,y]),some (.ref fr),some (.ref sa),none,none,none,none,none,none,none,x10,none,some (.ref av),some (.ref ch),x14,none,none,none,none,none] σ:=by
 refine⟨trivial,by lia,?_⟩
 show u7g _ _ _ _
 walk_at"mini"
 refine s_last rfl (w4l (w7f hk hv hF hr he hf ha hn fun s' hs=>?_))
 cases z:es.any fun e=>u1h kd vv (e.val F)with
 |true=>
  walk_at"mini"
  walk_at"st"
  intro b hb
  walk_at"mini"
  exact q1 z _ _ _ (hs.trans (Same.new hb)) u0c
 |false=>
  walk_at"mini"
  exact q0 z _ _ hs
theorem x4k {kd:Nat} {av ch:Addr} {x y inn:MV} {x10 x14:Option MV} {rest:List MV} {QS:Out→Loc→Hp→Prop} {ES:MV→Loc→Hp→Prop} (hr:r≠0)
  (q0:unr Tb (CSf c.toCx) r (.tup [14,10]) M.z1x QS ES (fun _=>True) rest [some (.tup [.sym 77,.sym kd,x,y]),some (.ref fr),some (.ref sa),none,none,none,none,none,none,none,some inn,none,some (.ref av),some (.ref ch),some .none,none,none,none,none,none] σ):
  unr Tb (CSf c.toCx) r (.tup [14,10]) M.z1x QS ES (fun _=>True) (.tup [.none,inn]::rest) [some (.tup [.sym 77,.sym kd,x,y]),some (.ref fr),some (.ref sa),none,none,none,none,none,none,none,x10,none,some (.ref av),some (.ref ch),x14,none,none,none,none,none] σ:=by
 refine⟨trivial,hr,?_⟩
 show u7g _ _ _ _
 walk_at"mini"
 walk_at"st"
 exact q0
theorem w6b {kd:Nat} {av ch:Addr} {vv:List Nat} {x y a b d:MV} {l1 l2 l3:Ex} {QS:Out→Loc→Hp→Prop} {ES:MV→Loc→Hp→Prop} (hk:kd ∈[77,135,136]) (hv:Ok vv∧vv.length=4) (hF:Fr4 F) (hr:10≤r) (h1:XOk l1 4) (h2:XOk l2 4) (h3:XOk l3 4) (hf:LFr σ fr l F) (ha:σ av=some (.list (numL vv))) (hc:σ ch=some (.list [b]))
  (q:∀ch' x10 x14 s',Same [] σ s'→s' ch'=some (.list [if u1h kd vv (l1.val F)||u1h kd vv (l2.val F)then a else if u1h kd vv (l3.val F)then d else b])→QS .next [some (.tup [.sym 77,.sym kd,x,y]),some (.ref fr),some (.ref sa),none,none,none,none,none,none,none,x10,none,some (.ref av),some (.ref ch'),x14,none,none,none,none,none] s'):
  unr Tb (CSf c.toCx) r (.tup [14,10]) M.z1x QS ES (fun _=>True) [.tup [.tup [l3.mv],d],.tup [.none,b],.tup [.tup [l1.mv,l2.mv],a]] [some (.tup [.sym 77,.sym kd,x,y]),some (.ref fr),some (.ref sa),none,none,none,none,none,none,none,none,none,some (.ref av),some (.ref ch),none,none,none,none,none,none] σ:=by
 have he:∀e ∈[l1,l2],XOk e 4:=fun e he=>by
  refine Or.elim (List.mem_cons.mp he) (fun z=>?_) (fun z=>?_)
  ·rw [z];exact h1
  ·rw [List.mem_singleton.mp z];exact h2
 have e2:([l1,l2].any fun e=>u1h kd vv (e.val F))=(u1h kd vv (l1.val F)||u1h kd vv (l2.val F)):=congrArg _ (Bool.or_false _)
 have e1:([l3].any fun e=>u1h kd vv (e.val F))=u1h kd vv (l3.val F):=Bool.or_false _
 have last:∀(z:MV) ch x10 x14 s',Same [] σ s'→s' ch=some (.list [z])→z=(if u1h kd vv (l3.val F)then d else b)→unr Tb (CSf c.toCx) r (.tup [14,10]) M.z1x QS ES (fun _=>True) [.tup [.none,b],.tup [.tup [l1.mv,l2.mv],a]] [some (.tup [.sym 77,.sym kd,x,y]),some (.ref fr),some (.ref sa),none,none,none,none,none,none,none,x10,none,some (.ref av),some (.ref ch),x14,none,none,none,none,none] s':=fun z ch x10 x14 s' s hz ez=>by
  refine x4k (by walk_at"om") (w9z (es:=[l1,l2]) hk hv hF hr he (hf.up s) (s _ _ ha (by simp)) (Nat.le_of_ble_eq_true rfl) (fun k ch' x14 s2 h2 g=>?_) fun k x14 s2 h2=>?_)
  ·refine⟨trivial,q _ _ _ _ (s.trans h2) ?_⟩
   rw [←e2,k];exact g
  ·refine⟨trivial,q _ _ _ _ (s.trans h2) ?_⟩
   rw [←e2,k,←ez];exact h2 _ _ hz (by simp)
 refine w9z (es:=[l3]) hk hv hF hr (fun e he=>by rw [List.mem_singleton.mp he];exact h3) hf ha (Nat.le_of_ble_eq_true rfl) (fun k ch' x14 s2 h2 g=>?_) fun k x14 s2 h2=>?_
 ·exact last d _ _ _ _ h2 g (by rw [←e1,k];rfl)
 ·exact last b _ _ _ _ h2 (h2 _ _ hc (by simp)) (by rw [←e1,k];rfl)
theorem x1v {n kd:Nat} {v l1 l2 l3:Ex} {a b d:St} (hn:14≤n) (hk:kd ∈[77,135,136]) (hv:XOk v 4) (h1:XOk l1 4) (h2:XOk l2 4) (h3:XOk l3 4) (ha:LRun c n a) (hb:LRun c n b) (hd:LRun c n d):LRun c (n+1) (.case kd v l1 l2 l3 a b d):=by
 intro r σ Q E t sa fr l B F f hr ds h q
 refine u3l (by walk_at"om") ds h q fun m σ1 h q=>?_
 have hdp:=hv.dp
 have ho:=hv.wf.ok h.fr4
 repeat walk_at"st"
 refine u5w h.fr4 hv (by walk_at"om") h.at_ fun av σ2 n2 s2 e2=>?_
 replace q:=LQ.up q (s2.mono (G:=sa::l) fun _ z=>(by cases z))
 replace h:=h.up s2
 walk_at"mini"
 walk_at"st"
 refine u1o (by walk_at"om") ?_
 walk_at"mini"
 refine u6x (x5e rfl (Nat.le_of_ble_eq_true rfl) (x9z rfl (Nat.le_of_ble_eq_true rfl) (x5e rfl (Nat.le_of_ble_eq_true rfl) ⟨⟨trivial,Nat.le_of_ble_eq_true rfl⟩,fun ch hc=>?_⟩)))
 walk_at"mini"
 have s3:Same [] σ2 _:=Same.new (o:=.list [b.mv]) hc
 have ec:=u0c (σ:=σ2) (a:=ch) (o:=.list [b.mv])
 generalize σ2.put ch (.list [b.mv])=σ3 at*
 replace q:=LQ.up q (s3.mono (G:=sa::l) fun _ z=>(by cases z))
 replace h:=h.up s3
 replace e2:=s3 _ _ e2 (by simp)
 walk_at"st"
 refine u0v (by walk_at"om") ?_
 rw [x8h]
 walk_at"mini"
 refine⟨Nat.le_of_ble_eq_true rfl,?_⟩
 refine u2u (w6b hk ho h.fr4 (by walk_at"om") h1 h2 h3 h.at_ e2 ec fun ch' x10 x14 s' hs ec'=>?_)
 replace q:=LQ.up q (hs.mono (G:=sa::l) fun _ z=>(by cases z))
 replace h:=h.up hs
 walk_at"mini"
 repeat walk_at"st"
 cases k:u1h kd (v.val F) (l1.val F)||u1h kd (v.val F) (l2.val F)with
 |true=>
  rw [k]at q ec'
  refine u0l 0 ec' rfl (by decide) rfl ?_
  exact ha (t:={}) _ (by walk_at"om") ds h q
 |false=>
  rw [k]at q ec'
  cases k2:u1h kd (v.val F) (l3.val F)with
  |true=>
   rw [k2]at q ec'
   refine u0l 0 ec' rfl (by decide) rfl ?_
   exact hd (t:={}) _ (by walk_at"om") ds h q
  |false=>
   rw [k2]at q ec'
   refine u0l 0 ec' rfl (by decide) rfl ?_
   exact hb (t:={}) _ (by walk_at"om") ds h q
end
section
variable {c:CX}
theorem LRun.le {n m:Nat} {s:St} (h:LRun c n s) (k:n≤m):LRun c m s:=fun r _ _ _ _ _ _ _ _ _ _ hr=>h r (Nat.le_trans k hr)
theorem x6d {b:Bool} {n:Nat} {s:St} (h:St.Wf b n s):cond b (Lst (LRun c (2*n+14)) s) (LRun c (2*n+14) s):=by
 induction h with
 |@nil b n=>cases b with
  |false=>exact v8e (by walk_at"om")
  |true=>exact .nil
 |dis=>exact x6j (by walk_at"om")
 |set hi hw hlo he=>exact fun r _ _ _ _ _ _ _ _ _ _ hr d h q=>x6f (n:=0) (by walk_at"om") d hi hw hlo he h q
 |ite hk ha hb ia ib=>exact(x6h (by walk_at"om") hk ia ib).le (by walk_at"om")
 |case hd hv h1 h2 h3 ha hb hc ia ib ic=>exact(x1v (by walk_at"om") hd hv h1 h2 h3 ia ib ic).le (by walk_at"om")
 |whl hk hb ib=>exact(x6e (by walk_at"om") hk ib).le (by walk_at"om")
 |rep he hb ib=>exact(x6g (by walk_at"om") he ib).le (by walk_at"om")
 | «for» ha hk hs hb ia is ib=>exact(x6i (by walk_at"om") ia hk is ib).le (by walk_at"om")
 |blk ha hr ia ir=>exact(x6k (by walk_at"om") ia ir).le (by walk_at"om")
 |seq ha hr ia ir=>exact .seq ia ir
noncomputable def u3y (u v:List Nat):Fm:=[gen 4 fun _=>3,u,v,gen 4 fun _=>3]
theorem v4g {u v:List Nat} (hu:Ok u∧u.length=4) (hv:Ok v∧v.length=4):Fr4 (u3y u v):=⟨rfl,fun cs h=>by
 have g:Ok (gen 4 fun _=>3)∧(gen 4 fun _=>3).length=4:=⟨v2e,u1g ..⟩
 rcases List.mem_cons.mp h with e|h
 ·rw [e];exact g
 rcases List.mem_cons.mp h with e|h
 ·rw [e];exact hu
 rcases List.mem_cons.mp h with e|h
 ·rw [e];exact hv
 rw [List.mem_singleton.mp h];exact g⟩
variable {r:Nat} {σ:Hp} {Q E:MV→Hp→Prop} {t:Tk Q E} {sa:Addr} {B:MV} {f:Nat} {u v:List Nat} {a1 a2:Addr}
theorem w8j {a b d e:Addr} (h1:a≠b) (h2:a≠d) (h3:a≠e) (h4:b≠d) (h5:b≠e) (h6:d≠e):∀(i j:Nat) (x:Addr),[a,b,d,e][i]?=some x→[a,b,d,e][j]?=some x→i=j:=by
 have key:[a,b,d,e].Pairwise (·≠·):=by
  refine .cons (fun x hx=>?_) (.cons (fun x hx=>?_) (.cons (fun x hx=>?_) (.cons (fun x hx=>(by cases hx)) .nil)))
  ·rcases List.mem_cons.mp hx with z|hx
   ·rw [z];exact h1
   rcases List.mem_cons.mp hx with z|hx
   ·rw [z];exact h2
   rw [List.mem_singleton.mp hx];exact h3
  ·rcases List.mem_cons.mp hx with z|hx
   ·rw [z];exact h4
   rw [List.mem_singleton.mp hx];exact h5
  ·rw [List.mem_singleton.mp hx];exact h6
 intro i j x hi hj
 obtain⟨i1,ei⟩:=List.getElem?_eq_some_iff.mp hi
 obtain⟨j1,ej⟩:=List.getElem?_eq_some_iff.mp hj
 have p:=List.pairwise_iff_getElem.mp key
 refine or3 (Nat.lt_trichotomy i j) (fun z=>?_) (fun z=>?_) (fun z=>?_)
 ·exact absurd (ei.trans ej.symm) (p i j i1 j1 z)
 ·exact z
 ·exact absurd (ej.trans ei.symm) (p j i j1 i1 z)
noncomputable def isBl (v:MV):Bool:=match v with
 |.bool _=>true
 |_=>false
noncomputable def itm1 (o:MObj):Bool:=match o with
 |.list xs=>isBl (xs.getD 1 .none)
 |_=>false
theorem x0c (f:Nat) (B:MV) (u:List Nat):stO f B≠ .list (numL u):=fun z=>by
 have:true=isBl ((numL u).getD 1 .none):=congrArg itm1 z
 rcases u with _|⟨x,_|⟨y,u⟩⟩<;>cases this
structure LC (σ:Hp) (sa a1 a2:Addr) (B:MV) (R:Res) (Q:MV→Hp→Prop):Prop where
 over:R=none→∀σ' n x,Same [sa,a1,a2] σ σ'→σ' sa=some (w7k n B)→Q (.ref x) σ'
 done:∀g F f,R=some (g,F,f)→∀σ' x,σ x=none→Same [sa,a1,a2] σ σ'→Fr4 F→σ' sa=some (stO f B)→σ' x=some (.list (numL (F.getD 0 [])))→Q (.ref x) σ'
theorem v4v {R:Res} (hr:1≤r) (hu:Ok u∧u.length=4) (hv:Ok v∧v.length=4) (h1:σ a1=some (.list (numL u))) (h2:σ a2=some (.list (numL v))) (h12:a1≠a2) (h3:σ sa=some (stO f B)) (q:LC σ sa a1 a2 B R Q)
  (hs:∀{σ:Hp} {Q E:MV→Hp→Prop} {t:Tk Q E} {fr:Addr} {l:List Addr},LDis sa fr l→LS σ sa fr l B (u3y u v) f→LQ σ sa fr l B R Q→CS1 c.toCx (r- 1) (.ref A.f__law_run) [B,.ref fr,.ref sa] σ Q E t):
  CS1 c.toCx r (.ref A.f__law_entered) [.ref a1,.ref a2,.ref sa] σ Q E t:=by
 refine u8c hr ?_
 walk_at"st"
 refine v6e (w:=4) (by decide) fun σ1 s1 b0 n0=>?_
 have s2:Same [] σ1 _:=Same.new (o:=.list (List.replicate 4 (.int 3))) n0
 have e0:=u0c (σ:=σ1) (a:=b0) (o:=.list (List.replicate 4 (.int 3)))
 generalize σ1.put b0 _=σ2 at*
 walk_at"mini"
 refine v6e (w:=4) (by decide) fun σ3 s3 b3 n3=>?_
 have s4:Same [] σ3 _:=Same.new (o:=.list (List.replicate 4 (.int 3))) n3
 have e3:=u0c (σ:=σ3) (a:=b3) (o:=.list (List.replicate 4 (.int 3)))
 generalize σ3.put b3 _=σ4 at*
 walk_at"mini"
 intro fr nf
 have s5:Same [] σ4 _:=Same.new (o:=.list [.ref b0,.ref a1,.ref a2,.ref b3]) nf
 have ef:=u0c (σ:=σ4) (a:=fr) (o:=.list [.ref b0,.ref a1,.ref a2,.ref b3])
 generalize σ4.put fr _=σ5 at*
 walk_at"mini"
 have s02:=s1.trans s2
 have s04:=s02.trans (s3.trans s4)
 have s05:=s04.trans s5
 have m1:=u0h (s1 _ _ h1 (by simp)) n0
 have m2:=u0h (s1 _ _ h2 (by simp)) n0
 have m3:=u0h ((s02.trans s3) _ _ h1 (by simp)) n3
 have m4:=u0h ((s02.trans s3) _ _ h2 (by simp)) n3
 have m0:=u0h (s3 _ _ e0 (by simp)) n3
 have g0:=(s1.none n0)
 have g3:=((s02.trans s3).none n3)
 have gf:=(s04.none nf)
 have o3:σ5 sa=some (stO f B):=s05 _ _ h3 (by simp)
 have k1:=u6a h3 h1 (x0c _ _ _)
 have k2:=u6a h3 h2 (x0c _ _ _)
 have k0:=u0h h3 g0
 have k3:=u0h h3 g3
 have d:LDis sa fr [b0,a1,a2,b3]:=by
  refine⟨w8j (Ne.symm m1) (Ne.symm m2) m0 h12 m3 m4,u0h h3 gf,fun z=>?_,fun z=>?_⟩
  ·rcases List.mem_cons.mp z with z|z
   ·exact k0 z
   rcases List.mem_cons.mp z with z|z
   ·exact k1 z
   rcases List.mem_cons.mp z with z|z
   ·exact k2 z
   exact k3 (List.mem_singleton.mp z)
  ·rcases List.mem_cons.mp z with z|z
   ·exact u0h ((s3.trans s4) _ _ e0 (by simp)) nf z.symm
   rcases List.mem_cons.mp z with z|z
   ·exact u0h h1 gf z.symm
   rcases List.mem_cons.mp z with z|z
   ·exact u0h h2 gf z.symm
   exact u0h e3 nf (List.mem_singleton.mp z).symm
 have hl:LS σ5 sa fr [b0,a1,a2,b3] B (u3y u v) f:=by
  refine⟨v4g hu hv,⟨ef,rfl,fun i a cs x y=>?_⟩,o3⟩
  rcases i with _|_|_|_|i
  ·cases x;cases y;rw [v6i];exact(s3.trans (s4.trans s5)) _ _ e0 (by simp)
  ·cases x;cases y;exact s05 _ _ h1 (by simp)
  ·cases x;cases y;exact s05 _ _ h2 (by simp)
  ·cases x;cases y;rw [v6i];exact s5 _ _ e3 (by simp)
  ·cases x
 have ss:∀{σ'},Same [sa,b0,a1,a2,b3] σ5 σ'→Same [sa,a1,a2] σ σ':=fun{σ'} k a o e h=>by
  refine k a o (s05 a o e (by simp)) fun z=>?_
  rcases List.mem_cons.mp z with z|z
  ·exact h (by rw [z];exact .head _)
  rcases List.mem_cons.mp z with z|z
  ·exact u0h e g0 z
  rcases List.mem_cons.mp z with z|z
  ·exact h (by rw [z];exact .tail _ (.head _))
  rcases List.mem_cons.mp z with z|z
  ·exact h (by rw [z];exact .tail _ (.tail _ (.head _)))
  exact u0h e g3 (List.mem_singleton.mp z)
 walk_at"st"
 refine u0l 2 o3 rfl (by decide) rfl ?_
 refine hs (t:={}) d hl ⟨fun e σ' n' k g=>?_,fun g F f e σ' k hl=>?_⟩
 ·walk_at"st"
  refine u0l 0 (k _ _ ef (fun z=>(List.mem_cons.mp z).elim (fun z=>d.n1 z.symm) d.n3)) rfl (by decide) rfl ?_
  exact q.over e _ _ _ (ss k) g
 ·walk_at"st"
  refine u0l 0 hl.at_.top rfl (by decide) rfl ?_
  refine u1e (hl.fr4.at (i:=0) (by decide)) fun cs e1 e2 _=>?_
  refine q.done g F f e _ _ g0 (ss k) hl.fr4 hl.st ?_
  rw [e2]
  exact hl.at_.cell 0 _ _ rfl e1
end
structure PgK where
 cx:Addr
 st:Addr
 d:Addr
 dw:Addr
 depth:Int
structure PgS (K:PgK) (fr:Addr) (N:Nat) (σ:Hp) (F:Fm) (f:Nat):Prop where
 fr4:Fr4 F
 cx:σ K.cx=some (fcO K.st fr K.d K.dw f K.depth)
 at_:σ fr=some (.list (F.map V))
 le:f≤N
 lt:N<200
noncomputable def limO:MObj:=excO A.c_LimitReached (.sym 70) (.int (-1)) (.sym 122)
structure PgQ (K:PgK) (fr:Addr) (N:Nat) (σ:Hp) (R:Res) (Q E:MV→Hp→Prop):Prop where
 over:R=none→∀σ' x (f':Int),Same [K.cx,fr] σ σ'→σ' K.cx=some (fcO K.st fr K.d K.dw f' K.depth)→σ' x=some limO→E (.ref x) σ'
 done:∀g F f,R=some (g,F,f)→∀σ',Same [K.cx,fr] σ σ'→PgS K fr N σ' F f→Q (gmv g) σ'
section
variable {K:PgK} {fr:Addr} {N M:Nat} {σ σ1:Hp} {F:Fm} {f:Nat} {R:Res} {Q Q1 E:MV→Hp→Prop}
theorem PgQ.up (q:PgQ K fr N σ R Q E) (s:Same [K.cx,fr] σ σ1):PgQ K fr N σ1 R Q E:=⟨fun e σ' x f' s'=>q.over e σ' x f' (s.trans s'),fun g F f e σ' s'=>q.done g F f e σ' (s.trans s')⟩
theorem PgQ.seq {k:Option Nat→Fm→Nat→Res} (q:PgQ K fr N σ (bnd R k) Q E) (h:∀g F f σ1,Same [K.cx,fr] σ σ1→PgS K fr M σ1 F f→PgQ K fr N σ1 (k g F f) Q E→Q1 (gmv g) σ1):PgQ K fr M σ R Q1 E:=by
 refine⟨fun e=>?_,fun g F f e σ' s hs=>?_⟩
 ·subst e
  exact q.over rfl
 ·subst e
  exact h g F f σ' s hs (PgQ.up q s)
theorem PgQ.ret {g:Option Nat} (q:PgQ K fr N σ (some (g,F,f)) Q E) (h:PgS K fr N σ F f):Q (gmv g) σ:=q.done _ _ _ rfl _ (Same.refl _ _) h
theorem PgS.cap (h:PgS K fr M σ F f) (k:f≤N) (l:N<200):PgS K fr N σ F f:=⟨h.fr4,h.cx,h.at_,k,l⟩
theorem PgS.ne (h:PgS K fr M σ F f):K.cx≠fr:=u6a h.cx h.at_ (by unfold fcO;simp)
theorem PgS.burn {m:Nat} (h:PgS K fr N σ F f) (e:f=m+1):PgS K fr N (σ.put K.cx (fcO K.st fr K.d K.dw m K.depth)) F m:=
 ⟨h.fr4,u0c,(u0g (Ne.symm h.ne)).trans h.at_,Nat.le_trans (by rw [e];exact Nat.le_succ m) h.le,h.lt⟩
end
section
variable {c:CX} {r:Nat} {σ:Hp} {Q E:MV→Hp→Prop} {t:Tk Q E} {K:PgK} {fr:Addr} {N:Nat} {F:Fm} {f:Nat}
theorem w6h {k:Nat→Res} {Q1:MV→Hp→Prop} {t:Tk Q1 E} (hr:3≤r) (h:PgS K fr N σ F f) (q:PgQ K fr N σ (burn f k) Q E) (h1:∀m σ1,Same [K.cx] σ σ1→f=m+1→PgS K fr N σ1 F m→PgQ K fr N σ1 (k m) Q E→Q1 .none σ1):CS1 c.toCx r (.ref A.f_FunctionContext_burn) [.ref K.cx] σ Q1 E t:=by
 refine x8w hr h.cx (fun e x hx=>?_) fun e=>?_
 ·obtain rfl:f=0:=by lia
  exact q.over rfl _ x 0 (Same.new hx) ((u0g (u0h h.cx hx)).trans h.cx) u0c
 ·obtain⟨m,rfl⟩:∃m,f=m+1:=⟨f- 1,by lia⟩
  have e:((m+1:Nat):Int)- 1=(m:Int):=by lia
  rw [e]
  exact h1 m _ Same.put rfl (h.burn rfl) (PgQ.up q (Same.put.mono fun a ha=>by rw [List.mem_singleton.mp ha];exact .head _))
theorem u8i {tag:Nat} {rest:List MV} {k:Nat→Res} (hr:4≤r) (h:PgS K fr N σ F f) (q:PgQ K fr N σ (burn f k) Q E)
  (h1:∀m σ1,Same [K.cx] σ σ1→PgS K fr N σ1 F m→PgQ K fr N σ1 (k m) Q E→swps Tb (CSf c.toCx) (r- 1) M.z1z [some (.tup (.sym tag::rest)),some (.ref K.cx),some (.sym tag)] σ1 (retQ Q) fun x _ σ1=>E x σ1):
  CS1 c.toCx r (.ref A.f_run_statement) [.tup (.sym tag::rest),.ref K.cx] σ Q E t:=by
 refine u4a (by walk_at"om") ?_
 walk_at"st"
 walk_at"st"
 refine u4n h.cx (by rfl) (by rfl) ?_
 walk_at"mini"
 refine w6h (by walk_at"om") h q fun m σ1 s1 _ h q=>?_
 walk_at"mini"
 walk_at"st"
 rw [u0w M.z1z]
 exact h1 m σ1 s1 h q
theorem u4l {tag:Nat} {rest:List MV} {k:Nat→Res} (hr:4≤r) (h:PgS K fr N σ F f) (q:PgQ K fr N σ (burn f k) Q E)
  (h1:∀m σ1,PgS K fr N σ1 F m→PgQ K fr N σ1 (k m) Q E→swps Tb (CSf c.toCx) (r- 1) M.z1z [some (.tup (.sym tag::rest)),some (.ref K.cx),some (.sym tag)] σ1 (retQ Q) fun x _ σ1=>E x σ1):
  CS1 c.toCx r (.ref A.f_run_statement) [.tup (.sym tag::rest),.ref K.cx] σ Q E t:=u8i hr h q fun m σ1 _ h q=>h1 m σ1 h q
def PRun (c:CX) (n:Nat) (s:St):Prop:=∀(r:Nat) {σ:Hp} {Q E:MV→Hp→Prop} {t:Tk Q E} {K:PgK} {fr:Addr} {N:Nat} {F:Fm} {f:Nat},n≤r→PgS K fr N σ F f→PgQ K fr N σ (s.run F f) Q E→
 CS1 c.toCx r (.ref A.f_run_statement) [s.mv,.ref K.cx] σ Q E t
theorem PRun.le {n m:Nat} {s:St} (h:PRun c n s) (k:n≤m):PRun c m s:=fun r _ _ _ _ _ _ _ _ _ hr=>h r (Nat.le_trans k hr)
theorem v7z {n:Nat} (hn:1≤n):PRun c n .nil:=by
 intro r σ Q E t K fr N F f hr h q
 exact w3e (by walk_at"om") (q.ret h)
theorem x5p {n k:Nat} (hn:4≤n):PRun c n (.dis k):=by
 intro r σ Q E t K fr N F f hr h q
 refine u4l (by walk_at"om") h q fun m σ1 h q=>?_
 repeat walk_at"st"
 exact q.ret h
theorem w1x {k:Ex} (hk:XOk k 1) (hF:Fr4 F):decide (u2z (k.val F)=1)=tst k F:=by
 refine u0d (hk.wf.one (F:=F) rfl) fun x e hx=>?_
 unfold tst
 rw [e]
 rcases hx with rfl|rfl|rfl<;>rfl
theorem ptst {k:Ex} (hr:25≤r) (hk:XOk k 1) (h:PgS K fr N σ F f) (q:Q (.bool (tst k F)) σ):CS1 c.toCx r (.ref A.f_FunctionContext_is_true) [.ref K.cx,k.mv] σ Q E t:=by
 have hd:=hk.dp
 have ho:=hk.wf.ok h.fr4
 refine w4m (by walk_at"om") (u9j h.fr4 (by rfl) hk (by walk_at"om") h.cx h.at_ ⟨_,rfl,ho.1,by lia,?_⟩)
 rw [w1x hk h.fr4]
 exact q
theorem x5n {n:Nat} {k:Ex} {a b:St} (hn:28≤n) (hk:XOk k 1) (ha:PRun c n a) (hb:PRun c n b):PRun c (n+1) (.ite k a b):=by
 intro r σ Q E t K fr N F f hr h q
 refine u4l (by walk_at"om") h q fun m σ1 h q=>?_
 walk_at"st"
 walk_at"st"
 walk_at"st"
 walk_at"st"
 refine u4n h.cx (by rfl) (by rfl) ?_
 walk_at"mini"
 refine ptst (by walk_at"om") hk h ?_
 cases z:tst k F with
 |true=>
  rw [z]at q
  walk_at"mini"
  repeat walk_at"st"
  exact ha _ (by walk_at"om") h q
 |false=>
  rw [z]at q
  walk_at"mini"
  repeat walk_at"st"
  exact hb _ (by walk_at"om") h q
theorem x5l {n w i:Nat} {lo:Int} {e:Ex} (hn:28≤n) (hi:i<4) (hw:w≤4) (hlo: -1≤lo∧lo≤4) (he:XOk e w):PRun c n (.set w i lo e):=by
 intro r σ Q E t K fr N F f hr h q
 refine u4l (by walk_at"om") h q fun m σ1 h q=>?_
 have hd:=he.dp
 have ho:=he.wf.ok h.fr4
 refine u4i (h.fr4.at hi) fun cs e1 e2 ok l4=>?_
 repeat walk_at"st"
 refine u6n (by walk_at"om") (by walk_at"om") he.wf.pos (by walk_at"om") ⟨by lia,by lia⟩ (u9j h.fr4 (by rfl) he (by walk_at"om") h.cx h.at_ ⟨_,cs,fr,_,_,rfl,ho.1,ok,ho.2,by walk_at"om",h.cx,by rfl,h.at_,by rw [List.getElem?_map,e1];rfl,fun σ' s g=>?_⟩)
 have q:=PgQ.up q (s.mono (G:=[K.cx,fr]) fun a ha=>by rw [List.mem_singleton.mp ha];exact .tail _ (.head _))
 refine q.ret ⟨h.fr4.set ?_,s _ _ h.cx fun z=>h.ne (List.mem_singleton.mp z),?_,h.le,h.lt⟩
 ·rw [e2];exact⟨v6g ok ho.1 lo,u0y.trans l4⟩
 ·rw [g,e2,List.map_set]
end
section
variable {c:CX} {r:Nat} {σ:Hp} {Q E:MV→Hp→Prop} {t:Tk Q E} {K:PgK} {fr:Addr} {N:Nat} {F:Fm} {f:Nat}
theorem PgS.low {M:Nat} {σ1:Hp} {F1:Fm} {f1:Nat} (h:PgS K fr M σ F f) (k:M≤N) (l:PgS K fr N σ1 F1 f1):PgS K fr N σ F f:=h.cap (Nat.le_trans h.le k) l.lt
theorem x8b {e:Ex} {C:Bool→Prop} (q:C false):cmpP .Is e.mv .none σ C:=by cases e<;>exact q
theorem w0i {k:Ex} {x y:MV} {l4:Option MV} {C:Bool→Hp→Prop} {C':MV→Hp→Prop} (hr:25≤r) (hk:XOk k 1) (h:PgS K fr N σ F f) (q:C (tst k F) σ):
  twp Tb (CSf c.toCx) r (.or [.cmp .Is (.loc 0) .none,.meth (.loc 3) 72 [.loc 0]]) [some k.mv,some x,some y,some (.ref K.cx),l4] σ C C':=by
 walk_at"mini"
 refine x8b ?_
 walk_at"mini"
 refine u4n h.cx (by rfl) (by rfl) ?_
 walk_at"mini"
 refine ptst hr hk h ?_
 cases z:tst k F with
 |true=>rw [z]at q;exact q
 |false=>rw [z]at q;exact q
theorem w3m {n:Nat} {k:Ex} {b s:St} (hn:28≤n) (hk:XOk k 1) (hb:PRun c n b) (hs:PRun c n s) (hr:n+1≤r) (h:PgS K fr N σ F f) (q:PgQ K fr N σ (v0c (tst k) b.run s.run 200 F f) Q E):
  CS1 c.toCx r (.ref A.f_run_while) [k.mv,b.mv,s.mv,.ref K.cx] σ Q E t:=by
 refine v2r (by walk_at"om") ?_
 walk_at"st"
 refine v7n (fun n loc σ=>∃F f l4,loc=[some k.mv,some b.mv,some s.mv,some (.ref K.cx),l4]∧PgS K fr N σ F f∧f<n∧PgQ K fr N σ (v0c (tst k) b.run s.run n F f) Q E) 200 ⟨F,f,_,rfl,h,Nat.lt_of_le_of_lt h.le h.lt,q⟩ fun i loc σ z=>?_
 refine u7n z fun F f l4 zz501 h hf q=>?_
 subst zz501
 obtain⟨j,rfl⟩:∃j,i=j+1:=⟨i- 1,by lia⟩
 replace q:PgQ K fr N σ (if tst k F then burn f fun f=>bnd (b.run F f) fun g F f=>onG g F f (bnd (s.run F f) fun _ F f=>v0c (tst k) b.run s.run j F f)else some (none,F,f)) Q E:=q
 refine w0i (by walk_at"om") hk h ?_
 cases z:tst k F with
 |false=>
  rw [z]at q
  walk_at"mini"
  repeat walk_at"st"
  exact q.ret h
 |true=>
  rw [z]at q
  walk_at"mini"
  walk_at"st"
  refine u4n h.cx (by rfl) (by rfl) ?_
  walk_at"mini"
  refine w6h (by walk_at"om") h q fun m σ1 _ em h q=>?_
  walk_at"st"
  have hm:=h.le
  refine hb _ (by walk_at"om") (h.cap (Nat.le_refl m) (Nat.lt_of_le_of_lt hm h.lt)) (PgQ.seq q fun g F1 f1 σ2 s2 h2 q=>?_)
  cases g with
  |some x=>
   unfold gmv
   walk_at"mini"
   walk_at"st"
   repeat walk_at"st"
   exact q.ret (h2.low hm h)
  |none=>
   unfold gmv
   walk_at"mini"
   walk_at"st"
   walk_at"st"
   refine hs _ (by walk_at"om") h2 (PgQ.seq q fun g F2 f2 σ3 s3 h3 q=>?_)
   walk_at"mini"
   have:=h3.le
   exact⟨j,by lia,F2,f2,_,rfl,h3.low hm h,by lia,q⟩
theorem x5k {n:Nat} {k:Ex} {b:St} (hn:28≤n) (hk:XOk k 1) (hb:PRun c n b):PRun c (n+2) (.whl k b):=by
 intro r σ Q E t K fr N F f hr h q
 refine u4l (by walk_at"om") h q fun m σ1 h q=>?_
 repeat walk_at"st"
 exact w3m (s:=.nil) hn hk hb (v7z (by walk_at"om")) (by walk_at"om") h q
theorem x5o {n:Nat} {k:Ex} {a b s:St} (hn:28≤n) (ha:PRun c n a) (hk:XOk k 1) (hs:PRun c n s) (hb:PRun c n b):PRun c (n+3) (.for a k s b):=by
 intro r σ Q E t K fr N F f hr h q
 refine u4l (by walk_at"om") h q fun m σ1 h q=>?_
 repeat walk_at"st"
 refine v7a (by walk_at"om") ?_
 walk_at"st"
 refine ha _ (by walk_at"om") h (PgQ.seq q fun g F f σ2 s2 h q=>?_)
 walk_at"mini"
 walk_at"st"
 exact w3m hn hk hb hs (by walk_at"om") h q
theorem x8s {cs:List Nat} {sg:Bool} (hl:cs.length=4) (hk:u0k cs=true):∃v:Int,numC cs sg=.int v∧v.toNat=cntC cs sg:=by
 unfold numC cntC
 rw [hk,if_pos rfl,if_pos rfl]
 refine⟨_,rfl,?_⟩
 have h:=w4h cs
 rw [hl]at h ⊢
 rw [Nat.shiftRight_eq_div_pow]
 cases sg with
 |false=>exact Int.toNat_natCast _
 |true=>
  by_cases z:7<lo2 cs
  ·rw [decide_eq_true (by lia:lo2 cs / 2^(4- 1)=1),decide_eq_true z]
   exact Int.toNat_of_nonpos (by walk_at"om")
  ·rw [decide_eq_false (by lia:¬lo2 cs / 2^(4- 1)=1),decide_eq_false z]
   exact Int.toNat_natCast _
theorem x5m {n:Nat} {e:Ex} {sg:Bool} {b:St} (hn:28≤n) (he:XOk e 4) (hb:PRun c n b):PRun c (n+2) (.rep e sg b):=by
 intro r σ Q E t K fr N F f hr h q
 refine u4l (by walk_at"om") h q fun m σ1 h q=>?_
 have hd:=he.dp
 have ho:=he.wf.ok h.fr4
 repeat walk_at"st"
 refine v0s (by walk_at"om") ?_
 walk_at"st"
 refine u9j h.fr4 (by rfl) he (by walk_at"om") h.cx h.at_ ?_
 walk_at"mini"
 refine v1n (by walk_at"om") ho.1 (by walk_at"om") (by walk_at"om") ?_
 walk_at"mini"
 cases hk:u0k (e.val F)with
 |false=>
  unfold cntC at q
  rw [hk]at q
  unfold numC
  rw [hk]
  repeat walk_at"st"
  exact q.ret h
 |true=>
  refine u0d (x8s (sg:=sg) ho.2 hk) fun v e1 e2=>?_
  rw [e1]
  walk_at"st"
  walk_at"st"
  refine v7n (fun n loc σ=>∃F f v l3,loc=[some (.tup [.sym 80,e.mv,.bool sg,b.mv]),some (.ref K.cx),some (.int v),l3]∧v.toNat=n∧PgS K fr N σ F f∧PgQ K fr N σ (repN b.run n F f) Q E) _ ⟨F,m,v,_,rfl,e2,h,q⟩ fun i loc σ z=>?_
  refine x8e z fun F f v l3 zz502 hv h q=>?_
  subst zz502
  walk_at"mini"
  cases i with
  |zero=>
   rw [decide_eq_false (by walk_at"om")]
   walk_at"mini"
   repeat walk_at"st"
   exact q.ret h
  |succ j=>
   rw [decide_eq_true (by walk_at"om")]
   walk_at"mini"
   walk_at"st"
   walk_at"st"
   refine u4n h.cx (by rfl) (by rfl) ?_
   walk_at"mini"
   refine w6h (by walk_at"om") h q fun m σ1 _ em h q=>?_
   walk_at"mini"
   walk_at"st"
   refine hb _ (by walk_at"om") h (PgQ.seq q fun g F1 f1 σ2 s2 h2 q=>?_)
   cases g with
   |some x=>
    unfold gmv
    walk_at"mini"
    walk_at"st"
    repeat walk_at"st"
    exact q.ret h2
   |none=>
    unfold gmv
    walk_at"mini"
    walk_at"st"
    exact⟨j,by lia,F1,f1,_,_,rfl,by lia,h2,q⟩
end
section
variable {c:CX} {r:Nat} {σ:Hp} {Q E:MV→Hp→Prop} {t:Tk Q E} {K:PgK} {fr:Addr} {N:Nat} {F:Fm} {f:Nat}
theorem x8x {n:Nat} {u:St} {sc:Int} (hu:Lst (PRun c n) u) (hr:n≤r):∀{σ:Hp} {F:Fm} {f:Nat},PgS K fr N σ F f→PgQ K fr N σ (bnd (u.run F f) fun g F f=>some (outB sc g,F,f)) Q E→v8x c r K.cx sc Q E u.items σ:=by
 induction hu with
 |nil=>exact fun h q=>PgQ.ret (g:=none) q h
 |@seq a u ha hu ih=>
  intro σ F f h q
  replace q:PgQ K fr N σ (bnd (bnd (a.run F f) fun g F f=>onG g F f (u.run F f)) fun g F f=>some (outB sc g,F,f)) Q E:=q
  rw [v7h]at q
  refine ha _ hr h (PgQ.seq q fun g F f σ2 s2 h q=>?_)
  cases g with
  |none=>exact .inl ⟨rfl,ih h q⟩
  |some k=>
   replace q:=PgQ.ret (g:=outB sc (some k)) q h
   refine .inr ⟨k,rfl,?_⟩
   by_cases z:(k:Int)=sc
   ·rw [if_pos z];rw [w3r z]at q;exact q
   ·rw [if_neg z];rw [w3s z]at q;exact q
theorem x5q {n:Nat} {a b:St} {sc:Int} (hn:28≤n) (ha:PRun c n a) (hb:Lst (PRun c n) b):PRun c (n+2) (.blk a b sc):=by
 intro r σ Q E t K fr N F f hr h q
 have e:(St.blk a b sc).mv=.tup [.sym 75,.tup (St.seq a b).items,.int sc]:=by
  show MV.tup [.sym 75,v5p a.mv b.mv,.int sc]=_
  rw [v8m hb];rfl
 rw [e]
 refine u4l (by walk_at"om") h q fun m σ1 h q=>?_
 repeat walk_at"st"
 exact u8s (by walk_at"om") (x8x (.seq ha hb) (by walk_at"om") h q)
theorem plab {kd:Nat} {vv:List Nat} {x y inn:MV} {x3 x4:Option MV} {QS:Out→Loc→Hp→Prop} {ES:MV→Loc→Hp→Prop} (hk:kd=77∨kd=135∨kd=136) (hv:Ok vv∧vv.length=4) (hr:24≤r) (h:PgS K fr N σ F f) (es:List Ex):(∀e ∈ es,XOk e 4)→∀x6,
  ((es.any fun e=>u1h kd vv (e.val F))=true→∀loc,CS1 c.toCx r (.ref A.f_run_statement) [inn,.ref K.cx] σ (fun v σ1=>QS (.ret v) loc σ1) (fun x σ1=>ES x loc σ1) {})→
  ((es.any fun e=>u1h kd vv (e.val F))=false→∀x6,QS .next [some (.tup [.sym 77,.sym kd,x,y]),some (.ref K.cx),some (V vv),x3,x4,some inn,x6] σ)→
  unr Tb (CSf c.toCx) r (.nm 6) M.z2l QS ES (fun _=>True) (es.map Ex.mv) [some (.tup [.sym 77,.sym kd,x,y]),some (.ref K.cx),some (V vv),x3,x4,some inn,x6] σ:=by
 induction es with
 |nil=>intro he x6 q1 q0;exact⟨trivial,q0 rfl x6⟩
 |cons e es ih=>
  intro he x6 q1 q0
  have h0:=he e (.head _)
  have hd:=h0.dp
  have ho:=h0.wf.ok h.fr4
  refine⟨trivial,?_⟩
  show setP _ _ _ _
  walk_at"mini"
  walk_at"st"
  refine u9j h.fr4 (by rfl) h0 (by walk_at"om") h.cx h.at_ ?_
  walk_at"mini"
  refine w4e (by walk_at"om") hk hv.1 ho.1 (hv.2.trans ho.2.symm) (by walk_at"om") ?_
  rw [List.any_cons]at q1 q0
  cases z:u1h kd vv (e.val F)with
  |true=>
   rw [z]at q1
   walk_at"mini"
   walk_at"st"
   exact q1 rfl _
  |false=>
   rw [z]at q1 q0
   walk_at"mini"
   exact ih (fun e h=>he e (.tail _ h)) _ q1 q0
theorem x0g {kd:Nat} {vv:List Nat} {x y inn:MV} {x3 x4 x5 x6:Option MV} {es:List Ex} {rest:List MV} {QS:Out→Loc→Hp→Prop} {ES:MV→Loc→Hp→Prop} (hk:kd=77∨kd=135∨kd=136) (hv:Ok vv∧vv.length=4) (hr:24≤r) (h:PgS K fr N σ F f) (he:∀e ∈ es,XOk e 4)
  (q1:(es.any fun e=>u1h kd vv (e.val F))=true→∀loc,CS1 c.toCx r (.ref A.f_run_statement) [inn,.ref K.cx] σ (fun v σ1=>QS (.ret v) loc σ1) (fun x σ1=>ES x loc σ1) {})
  (q0:(es.any fun e=>u1h kd vv (e.val F))=false→∀x4 x5 x6,unr Tb (CSf c.toCx) r (.tup [4,5]) M.z2d QS ES (fun _=>True) rest [some (.tup [.sym 77,.sym kd,x,y]),some (.ref K.cx),some (V vv),x3,x4,x5,x6] σ):
  unr Tb (CSf c.toCx) r (.tup [4,5]) M.z2d QS ES (fun _=>True) (.tup [.tup (es.map Ex.mv),inn]::rest) [some (.tup [.sym 77,.sym kd,x,y]),some (.ref K.cx),some (V vv),x3,x4,x5,x6] σ:=by
 refine⟨trivial,by lia,?_⟩
 show u7g _ _ _ _
 walk_at"mini"
 walk_at"st"
 walk_at"st"
 refine u0v (by walk_at"om") ?_
 walk_at"mini"
 exact u2u (plab hk hv hr h es he _ q1 fun z x6=>q0 z _ _ _)
theorem x5j {kd:Nat} {vv:List Nat} {x y inn:MV} {x3 x4 x5 x6:Option MV} {rest:List MV} {QS:Out→Loc→Hp→Prop} {ES:MV→Loc→Hp→Prop} (hr:24≤r)
  (q0:∀x4 x5,unr Tb (CSf c.toCx) r (.tup [4,5]) M.z2d QS ES (fun _=>True) rest [some (.tup [.sym 77,.sym kd,x,y]),some (.ref K.cx),some (V vv),some inn,x4,x5,x6] σ):
  unr Tb (CSf c.toCx) r (.tup [4,5]) M.z2d QS ES (fun _=>True) (.tup [.none,inn]::rest) [some (.tup [.sym 77,.sym kd,x,y]),some (.ref K.cx),some (V vv),x3,x4,x5,x6] σ:=by
 refine⟨trivial,by lia,?_⟩
 show u7g _ _ _ _
 walk_at"mini"
 walk_at"st"
 walk_at"st"
 walk_at"st"
 exact q0 _ _
theorem x1n {n kd:Nat} {v l1 l2 l3:Ex} {a b d:St} (hn:28≤n) (hk:kd ∈[77,135,136]) (hv:XOk v 4) (h1:XOk l1 4) (h2:XOk l2 4) (h3:XOk l3 4) (ha:PRun c n a) (hb:PRun c n b) (hd:PRun c n d):PRun c (n+2) (.case kd v l1 l2 l3 a b d):=by
 intro r σ Q E t K fr N F f hr h q
 refine u4l (by walk_at"om") h q fun m σ1 h q=>?_
 have hdv:=hv.dp
 have hd1:=h1.dp
 have hd2:=h2.dp
 have hd3:=h3.dp
 have ho:=hv.wf.ok h.fr4
 repeat walk_at"st"
 refine v4z (by walk_at"om") ?_
 walk_at"st"
 refine u9j h.fr4 (by rfl) hv (by walk_at"om") h.cx h.at_ ?_
 walk_at"mini"
 walk_at"st"
 walk_at"st"
 refine u0v (by walk_at"om") ?_
 walk_at"mini"
 have hk':kd=77∨kd=135∨kd=136:=by
  rcases List.mem_cons.mp hk with z|hk
  ·exact .inl z
  rcases List.mem_cons.mp hk with z|hk
  ·exact .inr (.inl z)
  exact .inr (.inr (List.mem_singleton.mp hk))
 have he:∀e ∈[l1,l2],XOk e 4:=fun e he=>by
  refine Or.elim (List.mem_cons.mp he) (fun z=>?_) (fun z=>?_)
  ·rw [z];exact h1
  ·rw [List.mem_singleton.mp z];exact h2
 have e2:([l1,l2].any fun e=>u1h kd (v.val F) (e.val F))=(u1h kd (v.val F) (l1.val F)||u1h kd (v.val F) (l2.val F)):=congrArg _ (Bool.or_false _)
 have e1:([l3].any fun e=>u1h kd (v.val F) (e.val F))=u1h kd (v.val F) (l3.val F):=Bool.or_false _
 rw [←e1,←e2]at q
 refine u2u (x0g (es:=[l1,l2]) hk' ho (by walk_at"om") h he (fun z loc=>?_) fun z x4 x5 x6=>x5j (by walk_at"om") fun x4 x5=>x0g (es:=[l3]) hk' ho (by walk_at"om") h (fun e he=>by rw [List.mem_singleton.mp he];exact h3) (fun z2 loc=>?_) fun z2 x4 x5 x6=>⟨trivial,?_⟩)
 ·rw [z]at q
  walk_at"mini"
  exact ha _ (by walk_at"om") h q
 ·rw [z,z2]at q
  walk_at"mini"
  exact hd _ (by walk_at"om") h q
 ·rw [z,z2]at q
  walk_at"mini"
  walk_at"st"
  exact hb _ (by walk_at"om") h q
theorem x5i {b:Bool} {n:Nat} {s:St} (h:St.Wf b n s):cond b (Lst (PRun c (3*n+28)) s) (PRun c (3*n+28) s):=by
 induction h with
 |@nil b n=>cases b with
  |false=>exact v7z (by walk_at"om")
  |true=>exact .nil
 |dis=>exact x5p (by walk_at"om")
 |set hi hw hlo he=>exact x5l (by walk_at"om") hi hw hlo he
 |ite hk ha hb ia ib=>exact(x5n (by walk_at"om") hk ia ib).le (by walk_at"om")
 |case hd hv h1 h2 h3 ha hb hc ia ib ic=>exact(x1n (by walk_at"om") hd hv h1 h2 h3 ia ib ic).le (by walk_at"om")
 |whl hk hb ib=>exact(x5k (by walk_at"om") hk ib).le (by walk_at"om")
 |rep he hb ib=>exact(x5m (by walk_at"om") he ib).le (by walk_at"om")
 | «for» ha hk hs hb ia is ib=>exact(x5o (by walk_at"om") ia hk is ib).le (by walk_at"om")
 |blk ha hr ia ir=>exact(x5q (by walk_at"om") ia ir).le (by walk_at"om")
 |seq ha hr ia ir=>exact .seq ia ir
end
noncomputable def u3c:Ex:=.bin 4 8 (.loc 1) (.const [1,0,0,0])
noncomputable def u4t:Ex:=.bin 1 16 (.const [0,0,0,0]) (.loc 1)
noncomputable def topM (e:Ex):MV:=.tup [.sym 74,.tup [.sym 119,.int 4,.tup [.tup [.sym 34,.int 4,.int 3,.none,.tup [.sym 5,.int 0]]]],.tup [.sym 45,.int 4,.int 0,.tup [u3c.mv,e.mv]],.none]
noncomputable def ifM (e:Ex):MV:=.tup [.sym 76,u4t.mv,topM e,.none]
noncomputable def u8d (e:Ex) (u:St):MV:=.tup [.sym 75,.tup (ifM e::u.items),.int 3]
abbrev Cal:=List Nat→List Nat→Nat→Res
noncomputable def v5g (C:Cal) (e:Ex) (F:Fm) (f:Nat):Res:=burn f fun f=>if tst u4t F then burn f fun f=>bnd (C (u3c.val F) (e.val F) f) fun _ F1 f1=>some (none,F.set 3 (F1.getD 0 []),f1)else some (none,F,f)
noncomputable def x3u (C:Cal) (e:Ex) (u:St) (F:Fm) (f:Nat):Res:=burn f fun f=>bnd (bnd (v5g C e F f) fun g F f=>onG g F f (u.run F f)) fun g F f=>some (outB 3 g,F,f)
noncomputable def v6y (e:Ex) (u:St):Nat→Cal
 |0=>fun x y f=>x3u (fun _ _ _=>none) e u (u3y x y) f
 |k+1=>fun x y f=>x3u (v6y e u k) e u (u3y x y) f
def Mes (u:List Nat) (k:Nat):Prop:=u0k u=true→lo2 u≤k
def V4 (u:List Nat):Prop:=Ok u∧u.length=4
theorem v9c:XOk u4t 1:=⟨.test (.inl rfl) (.const (by unfold Ok;decide) rfl) (.loc (by decide)),by decide+kernel⟩
theorem u5c:XOk u3c 4:=⟨.num (.inr (.inl rfl)) (.loc (by decide)) (.const (by unfold Ok;decide) rfl),by decide+kernel⟩
theorem u9u {u v:List Nat} (h:tst u4t (u3y u v)=true):u0k u=true∧0<lo2 u:=by
 have e:(u4t.val (u3y u v))=[ltC [0,0,0,0] u]:=rfl
 unfold tst at h
 rw [e]at h
 unfold ltC at h
 rw [show u0k [0,0,0,0]=true from rfl,Bool.true_and,show lo2 [0,0,0,0]=0 from rfl]at h
 cases k:u0k u with
 |false=>rw [k]at h;cases h
 |true=>
  rw [k,if_pos rfl]at h
  by_cases z:0<lo2 u
  ·exact⟨rfl,z⟩
  ·rw [if_neg z]at h;cases h
theorem v3x {u v:List Nat} {k:Nat} (hu:V4 u) (h:tst u4t (u3y u v)=true) (m:Mes u (k+1)):Mes (u3c.val (u3y u v)) k:=by
 refine u0a (u9u h) fun h1 h2=>?_
 have e:u3c.val (u3y u v)=u5n 4 (lo2 u- 1):=by
  show subC u [1,0,0,0]=_
  unfold subC
  rw [h1,hu.2]
  rfl
 rw [e]
 intro _
 have b:=v8y (w:=4) (n:=(lo2 u:Int)- 1)
 have l:=w4h u
 rw [hu.2]at l
 have:=m h1
 rw [Int.emod_eq_of_lt (by walk_at"om") (by walk_at"om")]at b
 lia
section
variable {c:CX} {r:Nat} {σ:Hp} {Q E:MV→Hp→Prop} {t:Tk Q E} {sa fr:Addr} {l:List Addr} {B:MV} {F:Fm} {f:Nat}
theorem LS.upG {σ1:Hp} {G:List Addr} {g:Nat} (h:LS σ sa fr l B F f) (s:Same G σ σ1) (n1:fr ∉ G) (n2:∀a ∈ l,a ∉ G) (e:σ1 sa=some (stO g B)):LS σ1 sa fr l B F g:=
 ⟨h.fr4,⟨s _ _ h.at_.top n1,h.at_.len,fun i a cs e1 e2=>s _ _ (h.at_.cell i a cs e1 e2) (n2 a (List.mem_of_getElem? e1))⟩,e⟩
theorem v8f {C:Cal} {e:Ex} (hr:18≤r) (he:XOk e 4) (d:LDis sa fr l) (h:LS σ sa fr l B F f) (q:LQ σ sa fr l B (v5g C e F f) Q)
  (hC:tst u4t F=true→∀{σ:Hp} {Q E:MV→Hp→Prop} {t:Tk Q E} {a1 a2:Addr} {f:Nat},σ a1=some (.list (numL (u3c.val F)))→σ a2=some (.list (numL (e.val F)))→a1≠a2→σ sa=some (stO f B)→LC σ sa a1 a2 B (C (u3c.val F) (e.val F) f) Q→CS1 c.toCx (r- 1- 1- 1) (.ref A.f__law_entered) [.ref a1,.ref a2,.ref sa] σ Q E t):
  CS1 c.toCx r (.ref A.f__law_run) [ifM e,.ref fr,.ref sa] σ Q E t:=by
 refine u3l (by walk_at"om") d h q fun m σ1 h q=>?_
 have he':=he.dp
 have hm':=u5c.dp
 have hF:=h.fr4
 repeat walk_at"st"
 refine w1r (by walk_at"om") v9c h fun σ2 s2=>?_
 replace q:=LQ.up q (s2.mono (G:=sa::l) fun _ z=>(by cases z))
 replace h:=h.up s2
 cases z:tst u4t F with
 |false=>
  rw [z]at q
  exact x0k (t:={}) (by walk_at"om") (q.ret h)
 |true=>
  rw [z]at q
  walk_at"mini"
  refine u3l (by walk_at"om") d h q fun m σ3 h q=>?_
  walk_at"st"
  walk_at"st"
  refine⟨by lia,?_⟩
  walk_at"mini"
  walk_at"st"
  walk_at"st"
  refine u9p (by walk_at"om") ?_
  walk_at"st"
  refine u5w hF u5c (by walk_at"om") h.at_ fun a1 σ4 n1 s4 e1=>?_
  walk_at"mini"
  refine u5w hF he (by walk_at"om") (h.at_.up s4) fun a2 σ5 n2 s5 e2=>?_
  walk_at"mini"
  have s45:=s4.trans s5
  have h12:a1≠a2:=fun z=>by rw [z,n2]at e1;cases e1
  have h5:=h.up s45
  have g2:=s4.none n2
  have o:∀a ∈ l,a≠sa∧a≠a1∧a≠a2:=fun a ha=>by
   refine u0i (List.getElem_of_mem ha) fun i zz501=>?_
   obtain⟨hi,rfl⟩:=zz501
   have:=h.at_.cell i _ _ (List.getElem?_eq_getElem hi) (List.getElem?_eq_getElem (h.at_.len▸hi))
   exact⟨fun z=>d.n2 (by rw [←z];exact List.getElem_mem hi),u0h this n1,u0h this g2⟩
  have f3:∀{a:Addr},a ∈[sa,a1,a2]→fr≠a∧a ∉ l:=fun{a} ha=>by
   rcases List.mem_cons.mp ha with z|ha
   ·rw [z];exact⟨Ne.symm d.n1,d.n2⟩
   rcases List.mem_cons.mp ha with z|ha
   ·rw [z];exact⟨u0h h.at_.top n1,fun z=>(o _ z).2.1 rfl⟩
   rw [List.mem_singleton.mp ha];exact⟨u0h h.at_.top g2,fun z=>(o _ z).2.2 rfl⟩
  have up:∀{σ6},Same [sa,a1,a2] σ5 σ6→Same (sa::l) σ3 σ6:=fun{σ6} s6 a ob ea hn=>s6 a ob (s45 a ob ea (by simp)) fun hz=>by
   rcases List.mem_cons.mp hz with z|hz
   ·exact hn (by rw [z];exact .head _)
   rcases List.mem_cons.mp hz with z|hz
   ·exact u0h ea n1 z
   exact u0h ea g2 (List.mem_singleton.mp hz)
  refine hC z (t:={}) (s5 _ _ e1 (by simp)) e2 h12 h5.st ⟨fun e' σ6 n' x s6 g=>?_,fun g F1 f1 e' σ6 x nx s6 hF1 gst ex=>?_⟩
  ·walk_at"st"
   refine u0l 1 g rfl (by decide) rfl ?_
   walk_at"mini"
   repeat walk_at"st"
   exact q.over (by rw [e'];rfl) σ6 n' (up s6) g
  ·walk_at"st"
   refine u0l 1 gst rfl (by decide) rfl ?_
   walk_at"mini"
   walk_at"st"
   have h6:LS σ6 sa fr l B F f1:=h5.upG s6 (fun z=>(f3 z).1 rfl) (fun a ha hz=>(f3 hz).2 ha) gst
   refine u4i (hF1.at (i:=0) (by decide)) fun bs b1 b2 okb lb=>?_
   refine u4i (hF.at (i:=3) (by decide)) fun cs c1 c2 okc lc=>?_
   have hil:3<l.length:=by rw [h.at_.len,hF.len];decide
   have ha:=List.getElem?_eq_getElem hil
   have hc5:=h5.at_.cell 3 _ cs ha c1
   have hc:=h6.at_.cell 3 _ cs ha c1
   rw [e']at q
   replace q:LQ σ3 sa fr l B (some (none,F.set 3 (F1.getD 0 []),f1)) (fun v σ1=>Q v σ1):=q
   rw [b2]at ex q
   refine w1o (i:=3) (w:=4) (by walk_at"om") h6.at_.top ha (by decide) hc lc ex (Ne.symm (u0h hc5 nx)) (fun z=>d.n3 (by rw [z];exact List.getElem_mem hil)) lb (by decide) (by decide) fun loc σ7 s7 e7=>?_
   walk_at"mini"
   repeat walk_at"st"
   rw [v7y (lc.trans lb.symm)]at e7
   have w:=h6.write d ha ⟨okb,lb⟩ s7 e7
   exact(LQ.up q ((up s6).trans (s7.mono fun b z=>by rw [List.mem_singleton.mp z];exact .tail _ (List.getElem_mem hil)))).ret w
theorem y0e {n:Nat} {e:Ex} {u:St} (hn:18≤n) (he:XOk e 4) (hu:Lst (LRun c n) u):∀(k:Nat) {r:Nat} {σ:Hp} {Q E:MV→Hp→Prop} {t:Tk Q E} {a1 a2:Addr} {x y:List Nat} {f:Nat},n+5*k+2≤r→V4 x→V4 y→Mes x k→σ a1=some (.list (numL x))→σ a2=some (.list (numL y))→a1≠a2→σ sa=some (stO f (u8d e u))→
  LC σ sa a1 a2 (u8d e u) (v6y e u k x y f) Q→CS1 c.toCx r (.ref A.f__law_entered) [.ref a1,.ref a2,.ref sa] σ Q E t:=by
 intro k
 induction k with
 |zero=>
  intro r σ Q E t a1 a2 x y f hr hx hy hm h1 h2 h12 h3 q
  refine v4v (by walk_at"om") hx hy h1 h2 h12 h3 q fun d h q=>?_
  refine v6n (x:=ifM e) (R0:=v5g (fun _ _ _=>none) e) (by walk_at"om") (by walk_at"om") hu d h q fun m _ _ _ _ h q=>v8f (by walk_at"om") he d h q fun z=>?_
  refine u0a (u9u z) fun z1 z2=>?_
  have:=hm z1
  lia
 |succ k ih=>
  intro r σ Q E t a1 a2 x y f hr hx hy hm h1 h2 h12 h3 q
  refine v4v (by walk_at"om") hx hy h1 h2 h12 h3 q fun d h q=>?_
  have hF:=h.fr4
  exact v6n (x:=ifM e) (R0:=v5g (v6y e u k) e) (by walk_at"om") (by walk_at"om") hu d h q fun m _ _ _ _ h q=>v8f (by walk_at"om") he d h q fun z {σ Q E t a1 a2 f} h1 h2 h12 h3 q=>
   ih (by walk_at"om") (u5c.wf.ok hF) (he.wf.ok hF) (v3x hx z hm) h1 h2 h12 h3 q
end
section
variable {c:CX} {r:Nat} {σ:Hp} {Q E:MV→Hp→Prop} {t:Tk Q E}
structure PgD (σ:Hp) (cx d rl rt sl pl:Addr) (ds fs:List (Nat×MV)) (B:MV):Prop where
 gd:σ d=some (.inst A.c_Design ds)
 d1:ds.lookup 113=some (.ref rl)
 d2:ds.lookup 64=none
 gl:σ rl=some (.list [.ref rt])
 gt:σ rt=some (.inst A.c_Routine fs)
 r1:fs.lookup 108=some (.bool true)
 r2:fs.lookup 66=some B
 r3:fs.lookup 67=some (.ref sl)
 r4:fs.lookup 68=some (.ref pl)
 gs:σ sl=some (.list (List.replicate 4 (.int 4)))
 gp:σ pl=some (.list [.tup [.sym 69,.int 4,.bool false,.sym 34,.int 1],.tup [.sym 69,.int 4,.bool false,.sym 34,.int 2]])
 nc:∀a ∈[d,rl,rt,sl,pl],a ∉[cx]
theorem PgD.up {cx d rl rt sl pl:Addr} {ds fs:List (Nat×MV)} {B:MV} {σ1:Hp} (h:PgD σ cx d rl rt sl pl ds fs B) (s:Same [cx] σ σ1):PgD σ1 cx d rl rt sl pl ds fs B:=
 ⟨s _ _ h.gd (h.nc _ (.head _)),h.d1,h.d2,s _ _ h.gl (h.nc _ (.tail _ (.head _))),s _ _ h.gt (h.nc _ (.tail _ (.tail _ (.head _)))),h.r1,h.r2,h.r3,h.r4,s _ _ h.gs (h.nc _ (.tail _ (.tail _ (.tail _ (.head _))))),s _ _ h.gp (h.nc _ (.tail _ (.tail _ (.tail _ (.tail _ (.head _)))))),h.nc⟩
variable {cx d rl rt sl pl:Addr} {ds fs:List (Nat×MV)} {B:MV}
theorem w3f (hr:1≤r) (h:PgD σ cx d rl rt sl pl ds fs B) (q:Q (.ref rt) σ):CS1 c.toCx r (.ref A.f_Design_routine) [.ref d,.int 0] σ Q E t:=by
 refine u7c (by walk_at"om") ?_
 walk_at"st"
 refine u1l h.gd (by rfl) h.d1 ?_
 walk_at"mini"
 refine u0l 0 h.gl rfl (by decide) rfl ?_
 walk_at"mini"
 walk_at"st"
 refine u1l h.gt (by rfl) h.r1 ?_
 walk_at"mini"
 repeat walk_at"st"
 exact q
theorem v3s {ar a:Addr} {k:Nat} {as xs rest:List MV} {u:List Nat} {x5 x6 x7 x8 x9 x10:Option MV} {st:Hp→Prop} {QS:Out→Loc→Hp→Prop} {ES:MV→Loc→Hp→Prop} (hr:4≤r) (hst:st σ) (h1:σ ar=some (.list as)) (h2:σ a=some (.list xs)) (hu:V4 u) (hk:k<as.length) (hl:as.length≤9) (hx:k+1<xs.length) (e:as[k]?=some (V u))
  (q:∀y5 y6 y7 y8 y9,unr Tb (CSf c.toCx) r (.tup [5,6,7,8,9]) M.z1w QS ES st rest [some (.ref cx),some (.ref rt),some (.ref ar),some (.ref a),some (.int (k+1:Nat)),y5,y6,y7,y8,y9,x10] (σ.put a (.list (xs.set (k+1) (V u))))):
  unr Tb (CSf c.toCx) r (.tup [5,6,7,8,9]) M.z1w QS ES st (.tup [.sym 69,.int 4,.bool false,.sym 34,.int (k+1:Nat)]::rest) [some (.ref cx),some (.ref rt),some (.ref ar),some (.ref a),some (.int (k:Nat)),x5,x6,x7,x8,x9,x10] σ:=by
 refine⟨hst,by lia,?_⟩
 show u7g _ _ _ _
 walk_at"mini"
 walk_at"st"
 refine x1x h1 (by walk_at"om") ?_
 walk_at"mini"
 rw [decide_eq_true (by lia:(k:Int)<as.length)]
 walk_at"mini"
 walk_at"st"
 walk_at"st"
 refine u0l k h1 rfl (by walk_at"om") e ?_
 walk_at"mini"
 refine w9a (by walk_at"om") hu.1 hu.2 ?_
 walk_at"mini"
 refine v0z (k+1) h2 rfl (by walk_at"om") hx ?_
 walk_at"mini"
 walk_at"st"
 exact q _ _ _ _ _
theorem w0m {ar:Addr} {u v:List Nat} (hr:8≤r) (h:PgD σ cx d rl rt sl pl ds fs B) (hu:V4 u) (hv:V4 v) (ha:σ ar=some (.list [V u,V v])) (q:∀a σ',σ a=none→Same [] σ σ'→σ' a=some (.list ((u3y u v).map V))→Q (.ref a) σ'):
  CS1 c.toCx r (.ref A.f_FunctionContext_new_frame) [.ref cx,.ref rt,.ref ar] σ Q E t:=by
 refine u2p (by walk_at"om") ?_
 walk_at"st"
 refine u1o (by walk_at"om") ?_
 walk_at"mini"
 refine u1l h.gt (by rfl) h.r3 ?_
 walk_at"mini"
 refine⟨_,h.gs,?_⟩
 refine u5g (fun i acc s=>s=σ∧acc=List.replicate i (V (gen 4 fun _=>3))∧i≤4) ⟨rfl,rfl,by decide⟩ (fun i acc s z=>?_) (fun i y acc s hy z=>?_) fun acc s z=>?_
 ·refine u2k z fun zz501 zz502 hi=>?_
  subst zz501
  subst zz502
  exact⟨h.gs,by rw [List.length_replicate];unfold u0t;lia⟩
 ·refine u2k z fun zz503 zz504 _=>?_
  subst zz503
  subst zz504
  obtain rfl:=List.eq_of_mem_replicate (List.mem_of_getElem? hy)
  have hi:i<4:=by have:=(List.getElem?_eq_some_iff.mp hy).1;rw [List.length_replicate]at this;exact this
  refine⟨fun k hk=>by rw [List.mem_singleton.mp hk];exact Nat.le_of_ble_eq_true rfl,?_⟩
  simp only [List.set_cons_succ,List.set_cons_zero]
  walk_at"mini"
  refine u9s 4 (by walk_at"om") rfl (by decide) ⟨rfl,?_,hi⟩
  rw [List.replicate_succ']
 ·refine u2k z fun zz505 zz506 _=>?_
  subst zz505
  subst zz506
  intro a na
  have s1:Same [] s _:=Same.new (o:=.list (List.replicate (List.replicate 4 (MV.int 4)).length (V (gen 4 fun _=>3)))) na
  have ea:=u0c (σ:=s) (a:=a) (o:=.list (List.replicate (List.replicate 4 (MV.int 4)).length (V (gen 4 fun _=>3))))
  generalize s.put a _=σ1 at*
  rw [List.length_replicate]at ea
  have h1:=h.up (s1.mono fun _ z=>(by cases z))
  have ha1:=s1 _ _ ha (by simp)
  walk_at"mini"
  walk_at"st"
  walk_at"st"
  refine u0v (by walk_at"om") ?_
  walk_at"mini"
  refine u1l h1.gt (by rfl) h1.r4 ?_
  walk_at"mini"
  refine⟨_,h1.gp,?_⟩
  have ne:ar≠a:=u0h ha na
  have np:pl≠a:=fun z=>by rw [z]at h;exact absurd (h.gp.symm.trans na) (by simp)
  refine u2u (v3s (k:=0) (by walk_at"om") h1.gp ha1 ea hu (Nat.le_of_ble_eq_true rfl) (Nat.le_of_ble_eq_true rfl) (Nat.le_of_ble_eq_true rfl) rfl fun y5 y6 y7 y8 y9=>v3s (k:=1) (by walk_at"om") ((u0g np).trans h1.gp) ((u0g ne).trans ha1) u0c hv (Nat.le_of_ble_eq_true rfl) (Nat.le_of_ble_eq_true rfl) (Nat.le_of_ble_eq_true rfl) rfl fun y5 y6 y7 y8 y9=>⟨?_,?_⟩)
  ·rw [u2h];exact(u0g np).trans h1.gp
  ·rw [u2h]
   walk_at"mini"
   repeat walk_at"st"
   exact q a _ na (fun b o e _=>(u0g (u0h e na)).trans (s1 b o e (by simp))) u0c
structure PgC (K:PgK) (fr:Addr) (N:Nat) (σ:Hp) (R:Res) (Q E:MV→Hp→Prop):Prop where
 over:R=none→∀σ' x (f':Int),Same [K.cx] σ σ'→σ' K.cx=some (fcO K.st fr K.d K.dw f' K.depth)→σ' x=some limO→E (.ref x) σ'
 done:∀g F f,R=some (g,F,f)→∀σ',Same [K.cx] σ σ'→Fr4 F→σ' K.cx=some (fcO K.st fr K.d K.dw f K.depth)→f≤N→Q (V (F.getD 0 [])) σ'
theorem x1a {K:PgK} {fr ar:Addr} {f N:Nat} {u v:List Nat} {R:Res} (hr:9≤r) (hcx:σ K.cx=some (fcO K.st fr K.d K.dw f K.depth)) (hdp:K.depth<24) (hf:f≤N) (hN:N<200)
  (h:PgD σ K.cx K.d rl rt sl pl ds fs B) (hu:V4 u) (hv:V4 v) (ha:σ ar=some (.list [V u,V v])) (q:PgC K fr N σ R Q E)
  (hB:∀{σ:Hp} {Q E:MV→Hp→Prop} {t:Tk Q E} {fr':Addr},PgD σ K.cx K.d rl rt sl pl ds fs B→PgS ⟨K.cx,K.st,K.d,K.dw,K.depth+1⟩ fr' N σ (u3y u v) f→PgQ ⟨K.cx,K.st,K.d,K.dw,K.depth+1⟩ fr' N σ R Q E→CS1 c.toCx (r- 1) (.ref A.f_run_statement) [B,.ref K.cx] σ Q E t):
  CS1 c.toCx r (.ref A.f_FunctionContext_call) [.ref K.cx,.int 0,.ref ar] σ Q E t:=by
 refine u4b (by walk_at"om") ?_
 walk_at"st"
 refine u1l hcx (by rfl) (by rfl) ?_
 walk_at"mini"
 rw [decide_eq_false (by walk_at"om")]
 walk_at"mini"
 walk_at"st"
 refine u1l hcx (by rfl) (by rfl) ?_
 walk_at"mini"
 refine u4n h.gd (by rfl) h.d2 ?_
 walk_at"mini"
 refine w3f (by walk_at"om") h ?_
 walk_at"mini"
 walk_at"st"
 refine u1l hcx (by rfl) (by rfl) ?_
 walk_at"mini"
 walk_at"st"
 refine u4n hcx (by rfl) (by rfl) ?_
 walk_at"mini"
 refine w0m (by walk_at"om") h hu hv ha fun fr' σ1 nf s1 ef=>?_
 have hcx1:=s1 _ _ hcx (by simp)
 have h1:=h.up (s1.mono fun _ z=>(by cases z))
 walk_at"mini"
 refine u2q hcx1 (by rfl) (Nat.le_of_ble_eq_true rfl) ?_
 walk_at"mini"
 walk_at"st"
 refine u1l u0c (by rfl) (by rfl) ?_
 walk_at"mini"
 refine u2q u0c (by rfl) (Nat.le_of_ble_eq_true rfl) ?_
 rw [u2h]
 walk_at"mini"
 walk_at"st"
 refine w1w ?_
 walk_at"st"
 have h2:=h1.up (Same.put (o:=fcO K.st fr' K.d K.dw f (K.depth+1)))
 refine u1l h2.gt (by rfl) h2.r2 ?_
 walk_at"mini"
 have nfx:fr'≠K.cx:=u6a ef hcx1 (by unfold fcO;simp)
 have g2:PgS ⟨K.cx,K.st,K.d,K.dw,K.depth+1⟩ fr' N (σ1.put K.cx (fcO K.st fr' K.d K.dw f (K.depth+1))) (u3y u v) f:=⟨v4g hu hv,u0c,(u0g nfx).trans ef,hf,hN⟩
 have ss:∀{σ' σ''},Same [K.cx,fr'] (σ1.put K.cx (fcO K.st fr' K.d K.dw f (K.depth+1))) σ'→Same [K.cx] σ' σ''→Same [K.cx] σ σ'':=fun{σ' σ''} s s' a o e n=>s' a o (s a o ((u0g (fun z=>n (by rw [z];exact .head _))).trans (s1 a o e (by simp))) fun z=>(List.mem_cons.mp z).elim (fun z=>n (by rw [z];exact .head _)) fun z=>u0h e nf (List.mem_singleton.mp z)) n
 refine hB (t:={}) h2 g2 ⟨fun e' σ' x f' s' hc hx=>?_,fun g F f1 e' σ' s' hs=>?_⟩
 ·walk_at"st"
  refine u2q hc (by rfl) (Nat.le_of_ble_eq_true rfl) ?_
  walk_at"mini"
  walk_at"st"
  refine u1l u0c (by rfl) (by rfl) ?_
  walk_at"mini"
  refine u2q u0c (by rfl) (Nat.le_of_ble_eq_true rfl) ?_
  rw [u2h,Int.add_sub_cancel]
  walk_at"mini"
  have hec:x≠K.cx:=u6a hx hc (by unfold fcO limO excO;simp)
  exact⟨⟨x,_,_,rfl,(u0g hec).trans hx⟩,q.over e' _ _ f' (ss s' Same.put) u0c ((u0g hec).trans hx)⟩
 ·refine u1e (hs.fr4.at (i:=0) (by decide)) fun cs c1 c2 _=>?_
  walk_at"mini"
  walk_at"st"
  refine u1l hs.cx (by rfl) (by rfl) ?_
  walk_at"mini"
  refine u0l 0 hs.at_ rfl (by decide) (v:=V cs) (by rw [List.getElem?_map,c1];rfl) ?_
  walk_at"mini"
  walk_at"st"
  refine u2q hs.cx (by rfl) (Nat.le_of_ble_eq_true rfl) ?_
  walk_at"mini"
  walk_at"st"
  refine u1l u0c (by rfl) (by rfl) ?_
  walk_at"mini"
  refine u2q u0c (by rfl) (Nat.le_of_ble_eq_true rfl) ?_
  rw [u2h,Int.add_sub_cancel]
  walk_at"mini"
  repeat walk_at"st"
  rw [←c2]
  exact q.done g F f1 e' _ (ss s' Same.put) hs.fr4 u0c hs.le
end
section
variable {c:CX} {r:Nat} {σ:Hp} {Q E:MV→Hp→Prop} {t:Tk Q E} {K:PgK} {fr:Addr} {N:Nat} {F:Fm} {f:Nat} {rl rt sl pl:Addr} {ds fs:List (Nat×MV)} {B:MV}
theorem w9e {e:Ex} (hr:25≤r) (he:XOk e 4) (h:PgS K fr N σ F f)
  (q:∀a,σ a=none→CS1 c.toCx (r- 1) (.ref A.f_FunctionContext_call) [.ref K.cx,.int 0,.ref a] (σ.put a (.list [V (u3c.val F),V (e.val F)])) Q E {}):
  CS1 c.toCx r (.ref A.f_evaluate) [.tup [.sym 45,.int 4,.int 0,.tup [u3c.mv,e.mv]],.ref K.cx] σ Q E t:=by
 have hd:=he.dp
 have hm:=u5c.dp
 refine u1q (by walk_at"om") ?_
 repeat walk_at"st"
 refine u4n h.cx (by rfl) (by rfl) ?_
 walk_at"mini"
 refine u1o (by walk_at"om") ?_
 walk_at"mini"
 refine u6x ⟨⟨trivial,Nat.le_of_ble_eq_true rfl⟩,fun k hk=>by rw [List.mem_singleton.mp hk];exact Nat.le_of_ble_eq_true rfl,?_⟩
 simp only [List.set_cons_succ,List.set_cons_zero]
 walk_at"mini"
 refine u9j h.fr4 (by rfl) u5c (by walk_at"om") h.cx h.at_ ⟨⟨trivial,Nat.le_of_ble_eq_true rfl⟩,fun k hk=>by rw [List.mem_singleton.mp hk];exact Nat.le_of_ble_eq_true rfl,?_⟩
 simp only [List.set_cons_succ,List.set_cons_zero]
 walk_at"mini"
 refine u9j h.fr4 (by rfl) he (by walk_at"om") h.cx h.at_ ⟨⟨trivial,Nat.le_of_ble_eq_true rfl⟩,fun a ha=>?_⟩
 walk_at"mini"
 exact q a ha
theorem w7j {C:Cal} {e:Ex} (hr:40≤r) (he:XOk e 4) (hd:PgD σ K.cx K.d rl rt sl pl ds fs B) (h:PgS K fr N σ F f) (q:PgQ K fr N σ (v5g C e F f) Q E)
  (hC:tst u4t F=true→∀{σ:Hp} {Q E:MV→Hp→Prop} {t:Tk Q E} {a:Addr} {f:Nat},f≤N→PgD σ K.cx K.d rl rt sl pl ds fs B→σ K.cx=some (fcO K.st fr K.d K.dw f K.depth)→σ a=some (.list [V (u3c.val F),V (e.val F)])→PgC K fr N σ (C (u3c.val F) (e.val F) f) Q E→CS1 c.toCx (r- 1- 1- 1- 1) (.ref A.f_FunctionContext_call) [.ref K.cx,.int 0,.ref a] σ Q E t):
  CS1 c.toCx r (.ref A.f_run_statement) [ifM e,.ref K.cx] σ Q E t:=by
 refine u8i (by walk_at"om") h q fun m σ1 s1 h q=>?_
 replace hd:=hd.up s1
 walk_at"st"
 walk_at"st"
 walk_at"st"
 walk_at"st"
 refine u4n h.cx (by rfl) (by rfl) ?_
 walk_at"mini"
 refine ptst (by walk_at"om") v9c h ?_
 cases z:tst u4t F with
 |false=>
  rw [z]at q
  walk_at"mini"
  repeat walk_at"st"
  refine w3e (by walk_at"om") ?_
  exact q.ret h
 |true=>
  rw [z]at q
  walk_at"mini"
  repeat walk_at"st"
  refine u8i (by walk_at"om") h q fun m σ2 s2 h q=>?_
  replace hd:=hd.up s2
  refine u4i (h.fr4.at (i:=3) (by decide)) fun cs c1 c2 okc lc=>?_
  repeat walk_at"st"
  refine u6n (w:=4) (i:=3) (lo:=0) (by walk_at"om") (by decide) (by decide) (by decide) (by decide) (w9e (by walk_at"om") he h fun a na=>?_)
  have s3:Same [] σ2 _:=Same.new (o:=.list [V (u3c.val F),V (e.val F)]) na
  have e3:=u0c (σ:=σ2) (a:=a) (o:=.list [V (u3c.val F),V (e.val F)])
  generalize σ2.put a _=σ3 at*
  refine hC z (t:={}) h.le (hd.up (s3.mono fun _ z=>(by cases z))) (s3 _ _ h.cx (by simp)) e3 ⟨fun e' σ' x f' s hc hx=>?_,fun g F1 f1 e' σ' s hF1 hc hf1=>?_⟩
  ·exact q.over (by rw [e'];rfl) σ' x f' ((s3.mono fun _ z=>(by cases z)).trans (s.mono fun b z=>by rw [List.mem_singleton.mp z];exact .head _)) hc hx
  ·rw [e']at q
   refine u4i (hF1.at (i:=0) (by decide)) fun bs b1 b2 okb lb=>?_
   replace q:PgQ K fr N σ2 (some (none,F.set 3 (F1.getD 0 []),f1)) (fun v σ1=>Q v σ1) (fun x σ1=>E x σ1):=q
   rw [b2]at q ⊢
   have af:σ' fr=some (.list (F.map V)):=s _ _ (s3 _ _ h.at_ (by simp)) fun z=>h.ne (List.mem_singleton.mp z).symm
   refine⟨_,cs,fr,_,_,rfl,okb,okc,lb,by walk_at"om",hc,by rfl,af,by rw [List.getElem?_map,c1];rfl,fun σ4 s4 g4=>?_⟩
   rw [v7y (lc.trans lb.symm),←List.map_set]at g4
   have s24:Same [K.cx,fr] σ2 σ4:=(s3.mono fun _ z=>(by cases z)).trans ((s.mono fun b z=>by rw [List.mem_singleton.mp z];exact .head _).trans (s4.mono fun b z=>by rw [List.mem_singleton.mp z];exact .tail _ (.head _)))
   exact(PgQ.up q s24).ret ⟨h.fr4.set ⟨okb,lb⟩,s4 _ _ hc fun z=>h.ne (List.mem_singleton.mp z),g4,hf1,h.lt⟩
theorem w3n {n:Nat} {C:Cal} {e:Ex} {u:St} (hn:40≤n) (hr:n+2≤r) (he:XOk e 4) (hu:Lst (PRun c n) u) (hd:PgD σ K.cx K.d rl rt sl pl ds fs B) (h:PgS K fr N σ F f) (q:PgQ K fr N σ (x3u C e u F f) Q E)
  (hC:tst u4t F=true→∀{σ:Hp} {Q E:MV→Hp→Prop} {t:Tk Q E} {a:Addr} {f:Nat},f≤N→PgD σ K.cx K.d rl rt sl pl ds fs B→σ K.cx=some (fcO K.st fr K.d K.dw f K.depth)→σ a=some (.list [V (u3c.val F),V (e.val F)])→PgC K fr N σ (C (u3c.val F) (e.val F) f) Q E→CS1 c.toCx (r- 1- 1- 1- 1- 1- 1) (.ref A.f_FunctionContext_call) [.ref K.cx,.int 0,.ref a] σ Q E t):
  CS1 c.toCx r (.ref A.f_run_statement) [u8d e u,.ref K.cx] σ Q E t:=by
 refine u8i (by walk_at"om") h q fun m σ1 s1 h q=>?_
 replace hd:=hd.up s1
 repeat walk_at"st"
 rw [v7h]at q
 refine u8s (by walk_at"om") (w7j (by walk_at"om") he hd h (PgQ.seq q fun g F f σ2 s2 h q=>?_) hC)
 cases g with
 |none=>exact .inl ⟨rfl,x8x hu (by walk_at"om") h q⟩
 |some k=>
  replace q:=PgQ.ret (g:=outB 3 (some k)) q h
  refine .inr ⟨k,rfl,?_⟩
  by_cases z:(k:Int)=3
  ·rw [if_pos z];rw [w3r z]at q;exact q
  ·rw [if_neg z];rw [w3s z]at q;exact q
theorem y0b {n:Nat} {e:Ex} {u:St} (hn:40≤n) (he:XOk e 4) (hu:Lst (PRun c n) u):∀(k:Nat) {r:Nat} {σ:Hp} {Q E:MV→Hp→Prop} {t:Tk Q E} {K:PgK} {fr a:Addr} {N:Nat} {x y:List Nat} {f:Nat},n+7*k+3≤r→V4 x→V4 y→Mes x k→K.depth+k<24→f≤N→N<200→PgD σ K.cx K.d rl rt sl pl ds fs (u8d e u)→σ K.cx=some (fcO K.st fr K.d K.dw f K.depth)→σ a=some (.list [V x,V y])→
  PgC K fr N σ (v6y e u k x y f) Q E→CS1 c.toCx r (.ref A.f_FunctionContext_call) [.ref K.cx,.int 0,.ref a] σ Q E t:=by
 intro k
 induction k with
 |zero=>
  intro r σ Q E t K fr a N x y f hr hx hy hm hdp hf hN hd hc ha q
  refine x1a (by walk_at"om") hc (by walk_at"om") hf hN hd hx hy ha q fun hd h q=>?_
  refine w3n (K:=⟨K.cx,K.st,K.d,K.dw,K.depth+1⟩) (C:=fun _ _ _=>none) hn (by walk_at"om") he hu hd h q fun z=>?_
  refine u0a (u9u z) fun z1 z2=>?_
  have:=hm z1
  lia
 |succ k ih=>
  intro r σ Q E t K fr a N x y f hr hx hy hm hdp hf hN hd hc ha q
  refine x1a (by walk_at"om") hc (by walk_at"om") hf hN hd hx hy ha q fun hd h q=>?_
  have hF:=h.fr4
  exact w3n (K:=⟨K.cx,K.st,K.d,K.dw,K.depth+1⟩) (C:=v6y e u k) hn (by walk_at"om") he hu hd h q fun z {σ Q E t a f} hf hd hc ha q=>
   ih (K:=⟨K.cx,K.st,K.d,K.dw,K.depth+1⟩) (by walk_at"om") (u5c.wf.ok hF) (he.wf.ok hF) (v3x hx z hm) (by show K.depth+1+(k:Int)<24;lia) hf hN hd hc ha q
end
section
variable {c:CX} {r:Nat} {σ:Hp} {Q E:MV→Hp→Prop} {t:Tk Q E} {row:Addr}
theorem u5j {m:Nat} {Q:MV→Hp→Prop} {t:Tk (fun v σ'=>binP .Mod v (.int m) σ' Q) E} (hr:1≤r) (hm:0<m) (h:u1x σ row) (q:∀n σ',n<m→Same [row] σ σ'→u1x σ' row→Q (.int (n:Nat)) σ'):
  CS1 c.toCx r (.ref A.f__law_next) [.ref row] σ (fun v σ'=>binP .Mod v (.int m) σ' Q) E t:=by
 refine x0i hr h fun n σ' hn s g=>⟨by lia,?_⟩
 rw [w8m _ _ hm]
 exact q _ σ' (Nat.mod_lt _ hm) s g
theorem Same.two {a:Addr} {σ1 σ2:Hp} (s:Same [a] σ σ1) (s':Same [] σ1 σ2):Same [a] σ σ2:=s.trans (s'.mono fun _ z=>by cases z)
theorem u1x.up {σ1:Hp} (h:u1x σ row) (s:Same [] σ σ1):u1x σ1 row:=u1w h s (by simp)
theorem u1x.ne {a:Addr} (h:u1x σ row) (n:σ a=none):a≠row:=fun z=>by refine u1e h fun _ _ _ e=>?_;rw [←z,n]at e;cases e
def XQ (σ:Hp) (row:Addr) (w n:Nat) (Q:MV→Hp→Prop):Prop:=∀e σ',Ex.Wf e w→e.deep≤n→Same [row] σ σ'→u1x σ' row→Q e.mv σ'
theorem v4s {d k:Nat} {x3 x4:Option MV} (hr:3≤r) (h:u1x σ row) (hk:k<2) (q:XQ σ row 4 1 Q):
  swps Tb (CSf c.toCx) r M.z2e [some (.ref row),some (.int d),some (.int k),x3,x4] σ (retQ Q) fun x _ σ1=>E x σ1:=by
 refine Or.elim ((by lia:k=0∨k=1)) (fun zz501=>?_) (fun zz502=>?_)
 ·subst zz501
  repeat walk_at"st"
  refine w6j 4 hr rfl (by decide) h fun a cs σ1 na l ok s1 h1 ea=>?_
  walk_at"mini"
  refine v8d (by walk_at"om") ea ok (by walk_at"om") ?_
  unfold V
  rw [l]
  walk_at"mini"
  refine⟨⟨by simp,by simp,Nat.le_of_ble_eq_true rfl⟩,?_⟩
  exact q (.const cs) σ1 (.const ok l) (Nat.le_refl _) s1 h1
 ·subst zz502
  repeat walk_at"st"
  refine u5j (by walk_at"om") (by decide) h fun n σ1 hn s1 h1=>?_
  exact q (.loc n) σ1 (.loc hn) (Nat.le_refl _) s1 h1
theorem u7l (hr:4≤r) (h:u1x σ row) (q:XQ σ row 4 1 Q):CS1 c.toCx r (.ref A.f__law_expr) [.ref row,.int 0] σ Q E t:=by
 refine u7b (by walk_at"om") ?_
 walk_at"st"
 rw [decide_eq_false (by decide:¬(0:Int)<0)]
 walk_at"mini"
 refine u5j (m:=2) (by walk_at"om") (by decide) h fun n σ1 hn s1 h1=>?_
 walk_at"mini"
 rw [u0w M.z2e]
 refine v4s (r:=r- 1) (d:=0) ?_ h1 hn fun e σ' a b s g=>q e σ' a b (s1.trans s) g
 lia
theorem v7p (hr:5≤r) (h:u1x σ row) (q:XQ σ row 1 2 Q):CS1 c.toCx r (.ref A.f__law_test) [.ref row] σ Q E t:=by
 refine v2v (by walk_at"om") ?_
 walk_at"st"
 refine u7l (by walk_at"om") h fun e1 σ1 w1 d1 s1 h1=>?_
 walk_at"mini"
 walk_at"st"
 intro a na
 have s2:=Same.new (F:=[]) (o:=.list [.sym 16,.sym 20,.sym 21]) na
 have e2:=u0c (σ:=σ1) (a:=a) (o:=.list [.sym 16,.sym 20,.sym 21])
 generalize σ1.put a _=σ2 at*
 walk_at"mini"
 refine u5j (m:=3) (by walk_at"om") (by decide) (h1.up s2) fun n σ3 hn s3 h3=>?_
 have e3:=s3 _ _ e2 (by simpa using h1.ne na)
 have fin:∀op,(op=16∨op=20∨op=21)→CS1 c.toCx (r- 1) (.ref A.f__law_expr) [.ref row,.int 0] σ3 (fun v σ1=>Q (.tup [.sym 36,.int 1,.sym op,e1.mv,v,.bool false]) σ1) (fun x σ1=>E x σ1) {}:=fun op ho=>
  u7l (by walk_at"om") h3 fun e4 σ4 w4 d4 s4 h4=>q (.bin 1 op e1 e4) σ4 (.test ho w1 w4) (by show max e1.deep e4.deep+1≤2;lia) (((s1.two s2).trans s3).trans s4) h4
 refine or3 ((by lia:n=0∨n=1∨n=2)) (fun zz503=>?_) (fun zz504=>?_) (fun zz505=>?_)
 ·subst zz503
  exact u0l 0 e3 rfl (by decide) rfl (fin 16 (.inl rfl))
 ·subst zz504
  exact u0l 1 e3 rfl (by decide) rfl (fin 20 (.inr (.inl rfl)))
 ·subst zz505
  exact u0l 2 e3 rfl (by decide) rfl (fin 21 (.inr (.inr rfl)))
theorem v4r:∀(d:Nat) {r:Nat} {σ:Hp} {Q E:MV→Hp→Prop} {t:Tk Q E},d+6≤r→u1x σ row→XQ σ row 4 (d+2) Q→CS1 c.toCx r (.ref A.f__law_expr) [.ref row,.int d] σ Q E t:=by
 intro d
 induction d with
 |zero=>
  intro r σ Q E t hr h q
  exact u7l (by walk_at"om") h fun e σ' a b s g=>q e σ' a (by walk_at"om") s g
 |succ d ih=>
  intro r σ Q E t hr h q
  have ed:((d+1:Nat):Int)- 1=(d:Nat):=by lia
  refine u7b (by walk_at"om") ?_
  walk_at"st"
  rw [decide_eq_true (by lia:(0:Int)<(d+1:Nat))]
  walk_at"mini"
  refine u5j (m:=7) (by walk_at"om") (by decide) h fun n σ1 hn s1 h1=>?_
  walk_at"mini"
  by_cases k:n<2
  ·rw [u0w M.z2e]
   exact v4s (r:=r- 1) (d:=d+1) (by walk_at"om") h1 k fun e σ' a b s g=>q e σ' a (by walk_at"om") (s1.trans s) g
  ·walk_at"st"
   refine u2c (fun z=>by lia) fun _=>?_
   walk_at"st"
   refine u2c (fun z=>by lia) fun _=>?_
   walk_at"st"
   rw [ed]
   refine ih (by walk_at"om") h1 fun e2 σ2 w2 d2 s2 h2=>?_
   walk_at"mini"
   walk_at"st"
   rw [ed]
   refine ih (by walk_at"om") h2 fun e3 σ3 w3 d3 s3 h3=>?_
   walk_at"mini"
   have s13:=(s1.trans s2).trans s3
   walk_at"st"
   refine u2c (fun z=>?_) fun _=>?_
   ·walk_at"st"
    intro a na
    have s4:=Same.new (F:=[]) (o:=.list [.sym 7,.sym 8,.sym 24]) na
    have e4:=u0c (σ:=σ3) (a:=a) (o:=.list [.sym 7,.sym 8,.sym 24])
    generalize σ3.put a _=σ4 at*
    walk_at"mini"
    have fin:∀op,(op=7∨op=8∨op=24)→Q (.tup [.sym 36,.int 4,.sym op,e2.mv,e3.mv,.bool false]) σ4:=fun op ho=>
     q (.bin 4 op e2 e3) σ4 (.num ho w2 w3) (by show max e2.deep e3.deep+1≤_;lia) (s13.two s4) (h3.up s4)
    refine or3 ((by lia:n=2∨n=3∨n=4)) (fun zz506=>?_) (fun zz507=>?_) (fun zz508=>?_)
    ·subst zz506
     exact u0l 0 e4 rfl (by decide) rfl (fin 7 (.inl rfl))
    ·subst zz507
     exact u0l 1 e4 rfl (by decide) rfl (fin 8 (.inr (.inl rfl)))
    ·subst zz508
     exact u0l 2 e4 rfl (by decide) rfl (fin 24 (.inr (.inr rfl)))
   ·walk_at"st"
    refine v7p (by walk_at"om") h3 fun e4 σ4 w4 d4 s4 h4=>?_
    walk_at"mini"
    exact q (.cond e4 e2 e3) σ4 (.cond w4 w2 w3) (by show max e4.deep (max e2.deep e3.deep)+1≤_;lia) (s13.trans s4) h4
def TQ (σ:Hp) (row:Addr) (n:Nat) (Q:MV→Hp→Prop):Prop:=∀s σ',St.Wf false n s→Same [row] σ σ'→u1x σ' row→Q s.mv σ'
theorem w3a {d:Nat} (hr:d+8≤r) (hd:d≤2) (h:u1x σ row) (q:TQ σ row 0 Q):CS1 c.toCx r (.ref A.f__law_set) [.ref row,.int d] σ Q E t:=by
 refine v5d (by walk_at"om") ?_
 walk_at"st"
 refine u5j (m:=4) (by walk_at"om") (by decide) h fun i σ1 hi s1 h1=>?_
 walk_at"mini"
 walk_at"st"
 refine u5j (m:=3) (by walk_at"om") (by decide) h1 fun n σ2 hn s2 h2=>?_
 walk_at"mini"
 refine u2c (fun _=>?_) fun _=>?_
 ·walk_at"st"
  refine u5j (m:=6) (by walk_at"om") (by decide) h2 fun n σ3 hn s3 h3=>?_
  walk_at"mini"
  walk_at"st"
  walk_at"st"
  refine v4r d (by walk_at"om") h3 fun e σ4 w d' s4 h4=>?_
  walk_at"mini"
  exact q (.set 2 i (n- 1:Int) (.slc e)) σ4 (.set hi (by decide) (by walk_at"om") ⟨.slc w,by show e.deep+1≤6;lia⟩) (((s1.trans s2).trans s3).trans s4) h4
 ·walk_at"st"
  refine v4r d (by walk_at"om") h2 fun e σ4 w d' s4 h4=>?_
  walk_at"mini"
  exact q (.set 4 i 0 e) σ4 (.set hi (by decide) (by decide) ⟨w,by lia⟩) ((s1.trans s2).trans s4) h4
end
theorem St.Wf.up {b:Bool} {n:Nat} {s:St} (h:St.Wf b n s):St.Wf b (n+1) s:=by
 induction h with
 |nil=>exact .nil
 |dis=>exact .dis
 |set hi hw hlo he=>exact .set hi hw hlo he
 |ite hk ha hb ia ib=>exact .ite hk ia ib
 |case hd hv h1 h2 h3 ha hb hc ia ib ic=>exact .case hd hv h1 h2 h3 ia ib ic
 |whl hk hb ib=>exact .whl hk ib
 |rep he hb ib=>exact .rep he ib
 | «for» ha hk hs hb ia is ib=>exact .for ia hk is ib
 |blk ha hr ia ir=>exact .blk ia ir
 |seq ha hr ia ir=>exact .seq ia ir
theorem St.Wf.to {b:Bool} {n m:Nat} {s:St} (h:St.Wf b n s) (k:n≤m):St.Wf b m s:=by
 induction k with
 |refl=>exact h
 |step _ ih=>exact ih.up
section
variable {c:CX} {r:Nat} {σ:Hp} {Q E:MV→Hp→Prop} {t:Tk Q E} {row:Addr}
theorem w1q {a:Addr} {xs:List MV} (hs:σ a=some (.list xs)) (hl:xs.length≤1000) (q:Q (.tup xs) σ):CS1 c.toCx r (.type "tuple") [.ref a] σ Q E t:=v5l hs (by unfold u0t;lia) q
theorem w2b {x y z:MV} {Q:MV→Hp→Prop} (hr:2≤r) (h:u1x σ row) (q:∀v σ',(v=x∨v=y∨v=z)→Same [row] σ σ'→u1x σ' row→Q v σ'):
  newP (.list [x,y,z]) σ fun o σ1=>CS1 c.toCx r (.ref A.f__law_next) [.ref row] σ1 (fun v σ2=>binP .Mod v (.int 3) σ2 fun i σ3=>u4h o i σ3 Q) E {}:=by
 intro a na
 have s2:=Same.new (F:=[]) (o:=.list [x,y,z]) na
 have e2:=u0c (σ:=σ) (a:=a) (o:=.list [x,y,z])
 generalize σ.put a _=σ2 at*
 refine u5j (m:=3) (by walk_at"om") (by decide) (h.up s2) fun n σ3 hn s3 h3=>?_
 have e3:=s3 _ _ e2 (by simpa using h.ne na)
 have s13:Same [row] σ σ3:=(s2.mono fun _ z=>(by cases z)).trans s3
 refine or3 ((by lia:n=0∨n=1∨n=2)) (fun zz501=>?_) (fun zz502=>?_) (fun zz503=>?_)
 ·subst zz501
  exact u0l 0 e3 rfl (by decide) rfl (q _ _ (.inl rfl) s13 h3)
 ·subst zz502
  exact u0l 1 e3 rfl (by decide) rfl (q _ _ (.inr (.inl rfl)) s13 h3)
 ·subst zz503
  exact u0l 2 e3 rfl (by decide) rfl (q _ _ (.inr (.inr rfl)) s13 h3)
theorem v3k {d k:Nat} {x3 x4 x5:Option MV} (hr:11≤r) (h:u1x σ row) (hk:k<2) (q:TQ σ row 0 Q):
  swps Tb (CSf c.toCx) r M.z2a [some (.ref row),some (.int d),some (.int k),x3,x4,x5] σ (retQ Q) fun x _ σ1=>E x σ1:=by
 refine Or.elim ((by lia:k=0∨k=1)) (fun zz504=>?_) (fun zz505=>?_)
 ·subst zz504
  repeat walk_at"st"
  exact w3a (d:=2) (by walk_at"om") (by decide) h q
 ·subst zz505
  repeat walk_at"st"
  refine u5j (m:=2) (by walk_at"om") (by decide) h fun n σ1 hn s1 h1=>?_
  walk_at"mini"
  intro a na
  have s2:=Same.new (F:=[]) (o:=.list [.none,.tup [.sym 82,.int (3+(n:Int))]]) na
  have e2:=u0c (σ:=σ1) (a:=a) (o:=.list [.none,.tup [.sym 82,.int (3+(n:Int))]])
  generalize σ1.put a _=σ2 at*
  walk_at"mini"
  refine u5j (m:=2) (by walk_at"om") (by decide) (h1.up s2) fun m σ3 hm s3 h3=>?_
  have e3:=s3 _ _ e2 (by simpa using h1.ne na)
  have s13:=(s1.two s2).trans s3
  refine Or.elim ((by lia:m=0∨m=1)) (fun zz506=>?_) (fun zz507=>?_)
  ·subst zz506
   exact u0l 0 e3 rfl (by decide) rfl (q .nil σ3 .nil s13 h3)
  ·subst zz507
   refine u0l 1 e3 rfl (by decide) rfl ?_
   have z:Q (.tup [.sym 82,.int ((3+n:Nat):Int)]) σ3:=q (.dis (3+n)) σ3 .dis s13 h3
   rw [Int.natCast_add]at z
   exact z
theorem x4o:∀(d:Nat) {r:Nat} {σ:Hp} {Q E:MV→Hp→Prop} {t:Tk Q E},d+14≤r→u1x σ row→TQ σ row (2*d) Q→CS1 c.toCx r (.ref A.f__law_statement) [.ref row,.int d] σ Q E t:=by
 intro d
 induction d with
 |zero=>
  intro r σ Q E t hr h q
  refine u3k (by walk_at"om") ?_
  walk_at"st"
  rw [decide_eq_false (by decide:¬(0:Int)<(0:Nat))]
  walk_at"mini"
  refine u5j (m:=2) (by walk_at"om") (by decide) h fun n σ1 hn s1 h1=>?_
  walk_at"mini"
  rw [u0w M.z2a]
  refine v3k (r:=r- 1) (d:=0) ?_ h1 hn fun e σ' a s g=>q e σ' a (s1.trans s) g
  lia
 |succ d ih=>
  intro r σ Q E t hr h q
  have ed:((d+1:Nat):Int)- 1=(d:Nat):=by lia
  refine u3k (by walk_at"om") ?_
  walk_at"st"
  rw [decide_eq_true (by lia:(0:Int)<(d+1:Nat))]
  walk_at"mini"
  refine u5j (m:=9) (by walk_at"om") (by decide) h fun n σ1 hn s1 h1=>?_
  walk_at"mini"
  by_cases k:n<2
  ·rw [u0w M.z2a]
   exact v3k (r:=r- 1) (d:=d+1) (by walk_at"om") h1 k fun e σ' a s g=>q e σ' (a.to (Nat.zero_le _)) (s1.trans s) g
  ·walk_at"st"
   refine u2c (fun z=>by lia) fun _=>?_
   walk_at"st"
   refine u2c (fun z=>by lia) fun _=>?_
   walk_at"st"
   rw [ed]
   refine ih (by walk_at"om") h1 fun e2 σ2 w2 s2 h2=>?_
   replace s2:=s1.trans s2
   replace q:TQ σ2 row (2*d+2) Q:=fun s σ' w s' h'=>q s σ' w (s2.trans s') h'
   walk_at"mini"
   walk_at"st"
   refine u2c (fun z=>?_) fun _=>?_
   ·walk_at"st"
    refine v7p (by walk_at"om") h2 fun e3 σ3 w3 d3 s3 h3=>?_
    walk_at"mini"
    rw [ed]
    refine ih (by walk_at"om") h3 fun e4 σ4 w4 s4 h4=>?_
    walk_at"mini"
    exact q (.ite e3 e2 e4) σ4 (.ite ⟨w3,by lia⟩ (w2.to (by walk_at"om")) (w4.to (by walk_at"om"))) (s3.trans s4) h4
   walk_at"st"
   refine u2c (fun z=>?_) fun _=>?_
   ·walk_at"st"
    refine u7l (by walk_at"om") h2 fun l1 σ3 w3 d3 s3 h3=>?_
    walk_at"mini"
    refine u7l (by walk_at"om") h3 fun l2 σ4 w4 d4 s4 h4=>?_
    walk_at"mini"
    walk_at"st"
    rw [ed]
    refine ih (by walk_at"om") h4 fun b σ5 w5 s5 h5=>?_
    walk_at"mini"
    refine u7l (by walk_at"om") h5 fun l3 σ6 w6 d6 s6 h6=>?_
    walk_at"mini"
    refine ih (by walk_at"om") h6 fun x σ7 w7 s7 h7=>?_
    walk_at"mini"
    intro a na
    have s8:=Same.new (F:=[]) (o:=.list [.tup [.tup [l1.mv,l2.mv],e2.mv],.tup [.none,b.mv],.tup [.tup [l3.mv],x.mv]]) na
    have e8:=u0c (σ:=σ7) (a:=a) (o:=.list [.tup [.tup [l1.mv,l2.mv],e2.mv],.tup [.none,b.mv],.tup [.tup [l3.mv],x.mv]])
    generalize σ7.put a _=σ8 at*
    have h8:=h7.up s8
    have na':a ∉[row]:=by simpa using h7.ne na
    replace s8:=((s3.trans s4).trans (s5.trans s6)).trans (s7.two s8)
    walk_at"mini"
    walk_at"st"
    refine w2b (by walk_at"om") h8 fun kd σ9 hk s9 h9=>?_
    walk_at"mini"
    refine v4r 1 (by walk_at"om") h9 fun v σ10 wv dv s10 h10=>?_
    walk_at"mini"
    refine w1q ((s9.trans s10) _ _ e8 na') (Nat.le_of_ble_eq_true rfl) ?_
    have fin:∀kd,kd ∈[77,135,136]→Q (.tup [.sym 77,.sym kd,v.mv,.tup [.tup [.tup [l1.mv,l2.mv],e2.mv],.tup [.none,b.mv],.tup [.tup [l3.mv],x.mv]]]) σ10:=fun kd hk=>
     q (.case kd v l1 l2 l3 e2 b x) σ10 (.case hk ⟨wv,by lia⟩ ⟨w3,by lia⟩ ⟨w4,by lia⟩ ⟨w6,by lia⟩ (w2.to (by walk_at"om")) (w5.to (by walk_at"om")) (w7.to (by walk_at"om"))) ((s8.trans s9).trans s10) h10
    walk_at"mini"
    refine or3 hk (fun zz508=>?_) (fun zz509=>?_) (fun zz510=>?_)
    ·subst zz508
     exact fin _ (.head _)
    ·subst zz509
     exact fin _ (.tail _ (.head _))
    ·subst zz510
     exact fin _ (.tail _ (.tail _ (.head _)))
   walk_at"st"
   refine u2c (fun z=>?_) fun _=>?_
   ·walk_at"st"
    refine v7p (by walk_at"om") h2 fun e3 σ3 w3 d3 s3 h3=>?_
    walk_at"mini"
    refine w3a (d:=1) (by walk_at"om") (by decide) h3 fun e4 σ4 w4 s4 h4=>?_
    walk_at"mini"
    exact q (.whl e3 (.blk e2 (.seq e4 .nil) (-1))) σ4 (.whl ⟨w3,by lia⟩ (.blk w2 (.seq (w4.to (Nat.zero_le _)) .nil))) (s3.trans s4) h4
   walk_at"st"
   refine u2c (fun z=>?_) fun _=>?_
   ·walk_at"st"
    refine v4r 1 (by walk_at"om") h2 fun e3 σ3 w3 d3 s3 h3=>?_
    walk_at"mini"
    refine u5j (m:=2) (by walk_at"om") (by decide) h3 fun m σ4 hm s4 h4=>?_
    walk_at"mini"
    exact q (.rep e3 _ e2) σ4 (.rep ⟨w3,by lia⟩ (w2.to (by walk_at"om"))) (s3.trans s4) h4
   walk_at"st"
   refine u2c (fun z=>?_) fun _=>?_
   ·walk_at"st"
    refine w3a (d:=0) (by walk_at"om") (by decide) h2 fun e3 σ3 w3 s3 h3=>?_
    walk_at"mini"
    refine v7p (by walk_at"om") h3 fun e4 σ4 w4 d4 s4 h4=>?_
    walk_at"mini"
    refine w3a (d:=1) (by walk_at"om") (by decide) h4 fun e5 σ5 w5 s5 h5=>?_
    walk_at"mini"
    exact q (.for e3 e4 e5 e2) σ5 (.for (w3.to (Nat.zero_le _)) ⟨w4,by lia⟩ (w5.to (Nat.zero_le _)) (w2.to (by walk_at"om"))) ((s3.trans s4).trans s5) h5
   ·walk_at"st"
    rw [ed]
    refine ih (by walk_at"om") h2 fun e3 σ3 w3 s3 h3=>?_
    walk_at"mini"
    refine w3a (d:=1) (by walk_at"om") (by decide) h3 fun e4 σ4 w4 s4 h4=>?_
    walk_at"mini"
    refine w2b (by walk_at"om") h4 fun v σ5 hv s5 h5=>?_
    have fin:∀sc,Q (.tup [.sym 75,.tup [e2.mv,e3.mv,e4.mv],.int sc]) σ5:=fun sc=>q (.blk e2 (.seq e3 (.seq e4 .nil)) sc) σ5 (.blk (w2.to (by walk_at"om")) (.seq (w3.to (by walk_at"om")) (.seq (w4.to (Nat.zero_le _)) .nil))) ((s3.trans s4).trans s5) h5
    walk_at"mini"
    rcases hv with rfl|rfl|rfl<;>exact fin _
end
theorem u4k (n:Nat) (v:MV):∀fs:List (Nat×MV),(putN n v fs).length≤fs.length+1
 |[]=>Nat.le_refl _
 |(j,u)::r=>by
  rw [u3u]
  by_cases h:j=n
  ·rw [if_pos h];exact Nat.le_succ _
  ·rw [if_neg h];exact Nat.succ_le_succ (u4k n v r)
theorem u3i {n m:Nat} {v:MV} (h:m≠n) (fs:List (Nat×MV)):(putN n v fs).lookup m=fs.lookup m:=by
 have b:=beq_eq_false_iff_ne.mpr h
 induction fs with
 |nil=>show(match m==n with|true=>some v|false=>none)=none;rw [b]
 |cons p r ih=>
  rw [u3u]
  split
  ·rename_i k;rw [List.lookup_cons,List.lookup_cons,k,b]
  ·rw [List.lookup_cons,List.lookup_cons,ih]
theorem u3t {n:Nat} {v:MV} (fs:List (Nat×MV)):(putN n v fs).lookup n=some v:=by
 induction fs with
 |nil=>show(match n==n with|true=>some v|false=>none)=some v;rw [beq_self_eq_true]
 |cons p r ih=>
  rw [u3u]
  split
  ·rw [List.lookup_cons,beq_self_eq_true]
  ·rename_i k;rw [List.lookup_cons,beq_eq_false_iff_ne.mpr fun z=>k z.symm,ih]
section
variable {c:CX} {r:Nat} {σ:Hp} {Q E:MV→Hp→Prop} {t:Tk Q E}
def Smp (c:CX) (r:Nat) (loc:Loc) (e:ME):Prop:=∀(σ:Hp) (Q E:MV→Hp→Prop),(∀v σ',Same [] σ σ'→Q v σ')→ewp Tb (CSf c.toCx) r e loc σ Q E
theorem v1t {loc:Loc}:Smp c r loc (.list []):=fun σ Q E q=>by
 walk_at"mini"
 exact fun a h=>q _ _ (Same.new h)
theorem x0d {loc:Loc}:Smp c r loc .dI:=fun σ Q E q=>by
 walk_at"mini"
 exact fun a h=>q _ _ (Same.new h)
theorem x4q {loc:Loc}:Smp c r loc .dS:=fun σ Q E q=>by
 walk_at"mini"
 exact fun a h=>q _ _ (Same.new h)
theorem u8h {loc:Loc}:Smp c r loc .none:=fun σ Q E q=>q _ _ (Same.refl _ _)
theorem w2w {loc:Loc} {i:Int}:Smp c r loc (.int i):=fun σ Q E q=>q _ _ (Same.refl _ _)
theorem v7u {loc:Loc} {b:Bool}:Smp c r loc (.bool b):=fun σ Q E q=>q _ _ (Same.refl _ _)
theorem x1j {loc:Loc}:Smp c r loc (.neg (.int 1)):=fun σ Q E q=>q _ _ (Same.refl _ _)
theorem u7e {loc:Loc} {i:Nat} {v:MV} (h:loc[i]?=some (some v)):Smp c r loc (.loc i):=fun σ Q E q=>by
 rw [x3b,h]
 exact q _ _ (Same.refl _ _)
noncomputable def iniM (p:Nat×ME):MS:=.asg (.attr (.loc 0) p.1) p.2
theorem w8e {a C:Addr} {loc:Loc} {rest:List MS} {QS:Out→Loc→Hp→Prop} {ES:MV→Loc→Hp→Prop} (hl:loc[0]?=some (some (.ref a))) (ks:List (Nat×ME)) {σ:Hp} {fs:List (Nat×MV)} (hk:∀p ∈ ks,Tb.okAttr C p.1=true∧Smp c r loc p.2) (h:σ a=some (.inst C fs)) (hn:fs.length+ks.length≤900)
  (q:∀fs' σ',Same [a] σ σ'→σ' a=some (.inst C fs')→fs'.length≤fs.length+ks.length→(∀m,m ∉ ks.map (·.1)→fs'.lookup m=fs.lookup m)→swps Tb (CSf c.toCx) r rest loc σ' QS ES):swps Tb (CSf c.toCx) r (ks.map iniM++rest) loc σ QS ES:=by
 induction ks generalizing σ fs with
 |nil=>exact q fs σ (Same.refl _ _) h (Nat.le_refl _) fun _ _=>rfl
 |cons p ks ih=>
  have h0:=hk _ (.head _)
  rw [List.length_cons]at hn
  refine w3c rfl ?_
  show swp _ _ _ (.asg (.attr (.loc 0) p.1) p.2) _ _ _ _
  rw [w0g]
  refine h0.2 _ _ _ fun v σ1 s1=>?_
  rw [x3b,hl]
  have l:=u4k p.1 v fs
  refine u2q (s1 _ _ h List.not_mem_nil) h0.1 (Nat.le_trans (Nat.le_add_right _ _) hn) ?_
  exact ih (fun p hp=>hk p (.tail _ hp)) u0c (by lia) fun fs' σ' s' h' l' k'=>q fs' σ' (((s1.mono fun _ z=>nomatch z).trans Same.put).trans s') h' (by rw [List.length_cons];lia) fun m hm=>(k' m fun z=>hm (.tail _ z)).trans (u3i (fun z=>hm (by rw [z];exact .head _)) fs)
theorem u8r {σ':Hp} {a:Addr} {o:MObj} (h:σ a=none) (s:Same [a] (σ.put a o) σ'):Same [] σ σ':=fun b o' e _=>
 s b o' ((u0g (u0h e h)).trans e) (by simpa using u0h e h)
theorem w2h {x:MV} (hr:3≤r) (q:∀st σ',σ st=none→Same [] σ σ'→Q (.ref st) σ'):CS1 c.toCx r (.ref A.c_Store) [x] σ Q E t:=by
 refine w3x (by walk_at"om") fun st hst=>u6y (by walk_at"om") ?_
 refine w8e rfl [(48,.loc 1),(52,.dI),(53,.dI),(54,.int 1)] (rest:=[]) (fun p hp=>?_) u0c (Nat.le_of_ble_eq_true rfl) fun fs' σ' s h _ _=>⟨rfl,q st σ' hst (u8r hst s)⟩
 rcases List.mem_cons.mp hp with e|hp
 ·rw [e];exact⟨rfl,u7e rfl⟩
 rcases List.mem_cons.mp hp with e|hp
 ·rw [e];exact⟨rfl,x0d⟩
 rcases List.mem_cons.mp hp with e|hp
 ·rw [e];exact⟨rfl,x0d⟩
 rw [List.mem_singleton.mp hp];exact⟨rfl,w2w⟩
theorem v8q {a C:Addr} {n:Nat} {fs:List (Nat×MV)} {loc:Loc} {rest:List MS} {QS:Out→Loc→Hp→Prop} {ES:MV→Loc→Hp→Prop} (hl:loc[0]?=some (some (.ref a))) (h:σ a=some (.inst C fs)) (ok:Tb.okAttr C n=true) (hn:fs.length≤900)
  (q:∀l σ',σ l=none→l ∉[a]→Same [a] σ σ'→σ' l=some (.list [])→σ' a=some (.inst C (putN n (.ref l) fs))→swps Tb (CSf c.toCx) r rest loc σ' QS ES):swps Tb (CSf c.toCx) r (iniM (n,.list [])::rest) loc σ QS ES:=by
 refine w3c rfl ?_
 show swp _ _ _ (.asg (.attr (.loc 0) n) (.list [])) _ _ _ _
 walk_at"mini"
 intro l hl'
 rw [hl]
 walk_at"mini"
 have hne:=u0h h hl'
 refine u2q ((u0g hne).trans h) ok hn (q l _ hl' (fun z=>hne (List.mem_singleton.mp z).symm) ((Same.new hl').trans Same.put) ?_ u0c)
 rw [u0g (Ne.symm hne)];exact u0c
theorem v3p {C:Addr} {loc:Loc} {ns:List Nat} (h:ns.all (fun n=>Tb.okAttr C n)=true):∀p ∈ ns.map fun n=>(n,ME.list []),Tb.okAttr C p.1=true∧Smp c r loc p.2:=fun p hp=>by
 refine u0d (List.mem_map.mp hp) fun n hn zz501=>?_
 subst zz501
 exact⟨List.all_eq_true.mp h n hn,v1t⟩
theorem w1a (hr:3≤r) (q:∀d rl ds v σ',σ d=none→σ rl=none→rl ∉[d]→Same [] σ σ'→σ' d=some (.inst A.c_Design ds)→ds.lookup 113=some (.ref rl)→ds.lookup 48=some v→ds.lookup 64=none→ds.lookup 120=none→σ' rl=some (.list [])→Q (.ref d) σ'):
  CS1 c.toCx r (.ref A.c_Design) [] σ Q E t:=by
 refine w0n (by walk_at"om") fun d hd=>u6i (by walk_at"om") ?_
 refine v8q (n:=48) (by rfl) u0c (by rfl) (Nat.le_of_ble_eq_true rfl) fun l1 σ1 n1 m1 s1 e1 h1=>?_
 refine w8e (C:=A.c_Design) (rest:=M.z2f) (loc:=[some (.ref d)]) rfl ([109,110,111,112].map fun n=>(n,ME.list [])) (v3p rfl) h1 (Nat.le_of_ble_eq_true rfl) fun fs2 σ2 s2 h2 l2 k2=>?_
 refine v8q (n:=113) (by rfl) h2 (by rfl) (Nat.le_trans l2 (Nat.le_of_ble_eq_true rfl)) fun rl σ3 n3 m3 s3 e3 h3=>?_
 have p3:=u4k 113 (.ref rl) fs2
 have l3:(putN 113 (.ref rl) fs2).length≤6:=Nat.le_trans p3 (Nat.succ_le_succ l2)
 refine w8e (C:=A.c_Design) (rest:=[]) (loc:=[some (.ref d)]) rfl (([114,115,68].map fun n=>(n,ME.list []))++[(116,.none),(117,.dS)]) (fun p hp=>?_) h3 (Nat.le_trans (Nat.add_le_add_right l3 _) (Nat.le_of_ble_eq_true rfl)) fun fs4 σ4 s4 h4 _ k4=>?_
 ·rcases List.mem_append.mp hp with hp|hp
  ·exact v3p rfl p hp
  rcases List.mem_cons.mp hp with e|hp
  ·rw [e];exact⟨rfl,u8h⟩
  rw [List.mem_singleton.mp hp];exact⟨rfl,x4q⟩
 ·have up:∀m,m≠113→m ∉[109,110,111,112]→m ∉[114,115,68,116,117]→fs4.lookup m=(putN 48 (.ref l1) []).lookup m:=fun m a b c=>by
   rw [k4 m c,u3i a,k2 m b]
  have s12:=s1.trans s2
  refine⟨rfl,q d rl fs4 (.ref l1) σ4 hd ?_ m3 (u8r hd (s12.trans (s3.trans s4))) h4 ?_ ?_ ?_ ?_ (s4 _ _ e3 m3)⟩
  ·cases z:σ rl with
   |none=>rfl
   |some o=>have:=s12 _ _ ((u0g (u0h z hd)).trans z) m3;rw [n3]at this;cases this
  ·rw [k4 113 (by decide),u3t]
  ·rw [up 48 (by decide) (by decide) (by decide),u3t]
  ·rw [up 64 (by decide) (by decide) (by decide)];rfl
  ·rw [up 120 (by decide) (by decide) (by decide)];rfl
theorem v6d {x1 x2 x3 x4 x5:MV} (hr:3≤r) (q:∀rt fs σ',σ rt=none→Same [] σ σ'→σ' rt=some (.inst A.c_Routine fs)→fs.length≤14→Q (.ref rt) σ'):
  CS1 c.toCx r (.ref A.c_Routine) [x1,x2,x3,x4,x5] σ Q E t:=by
 refine v6k (by walk_at"om") fun rt hrt=>u5l (by walk_at"om") ?_
 refine w8e (C:=A.c_Routine) (rest:=[]) (loc:=[some (.ref rt),some x1,some x2,some x3,some x4,some x5]) rfl [(102,.loc 1),(94,.loc 2),(103,.loc 3),(104,.loc 4),(5,.loc 5),(49,.int 1),(95,.bool false),(68,.list []),(67,.list []),(66,.none),(105,.none),(106,.none),(107,.neg (.int 1)),(108,.bool false)] (fun p hp=>?_) u0c (Nat.le_of_ble_eq_true rfl) fun fs σ' s h l _=>⟨rfl,q rt fs σ' hrt (u8r hrt s) h l⟩
 rcases List.mem_cons.mp hp with e|hp
 ·rw [e];exact⟨rfl,u7e rfl⟩
 rcases List.mem_cons.mp hp with e|hp
 ·rw [e];exact⟨rfl,u7e rfl⟩
 rcases List.mem_cons.mp hp with e|hp
 ·rw [e];exact⟨rfl,u7e rfl⟩
 rcases List.mem_cons.mp hp with e|hp
 ·rw [e];exact⟨rfl,u7e rfl⟩
 rcases List.mem_cons.mp hp with e|hp
 ·rw [e];exact⟨rfl,u7e rfl⟩
 rcases List.mem_cons.mp hp with e|hp
 ·rw [e];exact⟨rfl,w2w⟩
 rcases List.mem_cons.mp hp with e|hp
 ·rw [e];exact⟨rfl,v7u⟩
 rcases List.mem_cons.mp hp with e|hp
 ·rw [e];exact⟨rfl,v1t⟩
 rcases List.mem_cons.mp hp with e|hp
 ·rw [e];exact⟨rfl,v1t⟩
 rcases List.mem_cons.mp hp with e|hp
 ·rw [e];exact⟨rfl,u8h⟩
 rcases List.mem_cons.mp hp with e|hp
 ·rw [e];exact⟨rfl,u8h⟩
 rcases List.mem_cons.mp hp with e|hp
 ·rw [e];exact⟨rfl,u8h⟩
 rcases List.mem_cons.mp hp with e|hp
 ·rw [e];exact⟨rfl,x1j⟩
 rw [List.mem_singleton.mp hp];exact⟨rfl,v7u⟩
theorem v3e {d rl:Addr} {ds:List (Nat×MV)} {x1 x2 x3 x4:MV} (hr:5≤r) (hd:σ d=some (.inst A.c_Design ds)) (h1:ds.lookup 113=some (.ref rl)) (hs:σ rl=some (.list []))
  (q:∀rt fs σ',σ rt=none→Same [rl] σ σ'→σ' rt=some (.inst A.c_Routine fs)→fs.length≤14→σ' rl=some (.list [.ref rt])→Q (.ref rt) σ'):
  CS1 c.toCx r (.ref A.f_Design_add_routine) [.ref d,x1,x2,x3,x4] σ Q E t:=by
 refine u4j (by walk_at"om") ?_
 walk_at"st"
 refine u1l hd (by rfl) h1 ?_
 walk_at"mini"
 refine x1x hs (by decide) ?_
 walk_at"mini"
 refine v6d (by walk_at"om") fun rt fs σ1 hrt s1 h1' hl=>?_
 walk_at"mini"
 walk_at"st"
 refine u1l (s1 _ _ hd (by simp)) (by rfl) h1 ?_
 walk_at"mini"
 have hs1:=s1 _ _ hs (by simp)
 refine u6q hs1 ?_
 walk_at"mini"
 refine v9b hs1 (by decide) ?_
 walk_at"mini"
 walk_at"st"
 have hne:rt≠rl:=u6a h1' hs1 (by simp)
 exact q rt fs _ hrt ((s1.mono fun _ z=>by cases z).trans Same.put) ((u0g hne).trans h1') hl u0c
end
section
variable {c:CX} {r:Nat} {σ:Hp} {Q E:MV→Hp→Prop} {t:Tk Q E}
theorem y9b {st fr d:Addr} {fuel:Int} (hr:4≤r) (q:∀cx dw σ',σ cx=none→Same [] σ σ'→σ' cx=some (fcO st fr d dw fuel 0)→Q (.ref cx) σ'):
  CS1 c.toCx r (.ref A.c_FunctionContext) [.ref d,.ref st,.ref fr,.int 0,.int fuel] σ Q E t:=by
 refine u5z (by walk_at"om") fun cx hcx=>u2y (by walk_at"om") ?_
 walk_at"st"
 refine x5x (by rfl) ?_
 walk_at"mini"
 refine u5m (by walk_at"om") ?_
 walk_at"st"
 refine v1a ?_ (by rfl) (Nat.le_of_ble_eq_true rfl) rfl;walk_at"mini"
 walk_at"st"
 refine v1a ?_ (by rfl) (Nat.le_of_ble_eq_true rfl) rfl;walk_at"mini"
 walk_at"st"
 refine v1a ?_ (by rfl) (Nat.le_of_ble_eq_true rfl) rfl;walk_at"mini"
 walk_at"st"
 refine v1a ?_ (by rfl) (Nat.le_of_ble_eq_true rfl) rfl;walk_at"mini"
 walk_at"st"
 refine v1a ?_ (by rfl) (Nat.le_of_ble_eq_true rfl) rfl;walk_at"mini"
 walk_at"st"
 refine v1a ?_ (by rfl) (Nat.le_of_ble_eq_true rfl) rfl;walk_at"mini"
 walk_at"st"
 intro dw hdw
 walk_at"mini"
 have n:cx≠dw:=fun z=>by rw [←z,u0c]at hdw;cases hdw
 refine u2q ((u0g n).trans u0c) (by rfl) (Nat.le_of_ble_eq_true rfl) ?_
 walk_at"mini"
 refine q cx dw _ hcx (fun b o e _=>?_) u0c
 rw [u0g (Ne.symm n)]at hdw
 have h1:=u0h e hcx
 rw [u0g h1,u0g (u0h e hdw),u0g h1]
 exact e
structure PgF (σ:Hp) (d rl rt sl pl:Addr) (ds fs:List (Nat×MV)):Prop where
 gd:σ d=some (.inst A.c_Design ds)
 gl:σ rl=some (.list [.ref rt])
 gt:σ rt=some (.inst A.c_Routine fs)
 gs:σ sl=some (.list (List.replicate 4 (.int 4)))
 gp:σ pl=some (.list [.tup [.sym 69,.int 4,.bool false,.sym 34,.int 1],.tup [.sym 69,.int 4,.bool false,.sym 34,.int 2]])
theorem PgF.up {σ1:Hp} {G:List Addr} {d rl rt sl pl:Addr} {ds fs:List (Nat×MV)} (h:PgF σ d rl rt sl pl ds fs) (s:Same G σ σ1) (n:∀a ∈[d,rl,rt,sl,pl],a ∉ G):PgF σ1 d rl rt sl pl ds fs:=
 ⟨s _ _ h.gd (n _ (.head _)),s _ _ h.gl (n _ (.tail _ (.head _))),s _ _ h.gt (n _ (.tail _ (.tail _ (.head _)))),s _ _ h.gs (n _ (.tail _ (.tail _ (.tail _ (.head _))))),s _ _ h.gp (n _ (.tail _ (.tail _ (.tail _ (.tail _ (.head _))))))⟩
theorem PgF.old {d rl rt sl pl a:Addr} {ds fs:List (Nat×MV)} (h:PgF σ d rl rt sl pl ds fs) (n:σ a=none):∀b ∈[d,rl,rt,sl,pl],b≠a:=fun b hb=>by
 rcases List.mem_cons.mp hb with e|hb
 ·rw [e];exact u0h h.gd n
 rcases List.mem_cons.mp hb with e|hb
 ·rw [e];exact u0h h.gl n
 rcases List.mem_cons.mp hb with e|hb
 ·rw [e];exact u0h h.gt n
 rcases List.mem_cons.mp hb with e|hb
 ·rw [e];exact u0h h.gs n
 rw [List.mem_singleton.mp hb];exact u0h h.gp n
end
section
variable {c:CX} {r:Nat} {σ:Hp} {Q E:MV→Hp→Prop} {t:Tk Q E} {d rl rt sl pl:Addr} {ds fs:List (Nat×MV)}
structure PgL (ds fs:List (Nat×MV)) (rl sl pl:Addr) (B v:MV):Prop where
 d1:ds.lookup 113=some (.ref rl)
 d2:ds.lookup 64=none
 d3:ds.lookup 48=some v
 r1:fs.lookup 108=some (.bool true)
 r2:fs.lookup 66=some B
 r3:fs.lookup 67=some (.ref sl)
 r4:fs.lookup 68=some (.ref pl)
theorem x0z {a:Addr} {cs:List Nat} {Q:MV→Hp→Prop} {t:Tk Q E} (hs:σ a=some (.list (numL cs))) (hl:cs.length=4) (q:∀b σ',σ b=none→Same [] σ σ'→σ' b=some (.list (numL cs))→Q (.ref b) σ'):CS1 c.toCx r (.type "list") [.ref a] σ Q E t:=
 x0l hs (by rw [u0n];lia) fun b hb=>q b _ hb (Same.new hb) u0c
theorem x6q {x0 x1 x2 x3 x4 x5 x6 x7 x8 x9 x10 x12 x14 x15 x16 x17 x18:Option MV} {K:PgK} {fr sa:Addr} {fuel:Int} (hr:3≤r) (h0:K.depth=0) (h1:σ K.cx=some (fcO K.st fr K.d K.dw fuel K.depth)) (h2:σ fr=some (.list [.tup [.int 2,.int 1,.int 0]])) (q:∀σ',Same [] σ σ'→swps Tb (CSf c.toCx) r M.z2r [x0,x1,x2,x3,x4,x5,x6,x7,x8,x9,x10,some (.ref sa),x12,some (.ref K.cx),x14,x15,x16,x17,x18] σ' (retQ Q) fun x _ σ1=>E x σ1):
  swps Tb (CSf c.toCx) r M.z2o [x0,x1,x2,x3,x4,x5,x6,x7,x8,x9,x10,some (.ref sa),x12,some (.ref K.cx),x14,x15,x16,x17,x18] σ (retQ Q) fun x _ σ1=>E x σ1:=by
 walk_at"st"
 refine u1l h1 (by rfl) (by rfl) ?_
 walk_at"mini"
 intro a na
 have s2:=Same.new (F:=[]) (o:=.list [.tup [.int 2,.int 1,.int 0]]) na
 have e2:=u0c (σ:=σ) (a:=a) (o:=.list [.tup [.int 2,.int 1,.int 0]])
 generalize σ.put a _=σ2 at*
 walk_at"mini"
 refine⟨_,_,s2 _ _ h2 (by simp),e2,⟨rfl,rfl⟩,?_⟩
 rw [show beqs [MV.tup [.int 2,.int 1,.int 0]] [.tup [.int 2,.int 1,.int 0]]=true from rfl]
 walk_at"mini"
 refine u1l (s2 _ _ h1 (by simp)) (by rfl) (by rfl) ?_
 rw [h0]
 walk_at"mini"
 rw [u0w M.z2r]
 exact q _ s2
theorem x6p {x0 x1 x5 x6 x7 x8 x10 x16 x17 x18:Option MV} {sa xr ar b1 b2:Addr} {B v:MV} {e:Ex} {u:St} {x y:List Nat} {fuel:Nat} (hr:80≤r) (he:XOk e 4) (hp:Lst (PRun c 40) u) (hF:PgF σ d rl rt sl pl ds fs) (hL:PgL ds fs rl sl pl (u8d e u) v)
  (ea:σ ar=some (.list [.ref b1,.ref b2])) (e1:σ b1=some (.list (numL x))) (e2:σ b2=some (.list (numL y))) (hx:V4 x) (hy:V4 y) (hm:Mes x 3) (hf:fuel<200) (i:Int) (b:Bool) (hst:σ sa=some (.list [.int i,.bool b,B])) (hb:v6y e u 3 x y fuel=none→b=true)
  (hd:∀g F f,v6y e u 3 x y fuel=some (g,F,f)→Fr4 F→b=false∧σ xr=some (.list (numL (F.getD 0 [])))) (q:∀σ',Q (.bool true) σ'):
  swps Tb (CSf c.toCx) r M.z2p [x0,x1,some (.ref d),some (.ref rt),some (.ref ar),x5,x6,x7,x8,some (.int fuel),x10,some (.ref sa),some (.ref xr),none,none,none,x16,x17,x18] σ (retQ Q) fun x _ σ1=>E x σ1:=by
 walk_at"st"
 refine u1l hF.gd (by rfl) hL.d3 ?_
 walk_at"mini"
 refine w2h (by walk_at"om") fun st σ1 n1 s1=>?_
 walk_at"mini"
 intro fr0 n2
 have s2:=Same.new (F:=[]) (o:=.list [.tup [.int 2,.int 1,.int 0]]) n2
 have g2:=u0c (σ:=σ1) (a:=fr0) (o:=.list [.tup [.int 2,.int 1,.int 0]])
 generalize σ1.put fr0 _=σ2 at*
 walk_at"mini"
 refine y9b (by walk_at"om") fun cx dw σ3 n3 s3 g3=>?_
 walk_at"mini"
 have s12:=s1.trans s2
 have s03:=s12.trans s3
 have hF2:=hF.up s12 fun _ _ z=>(by cases z)
 have hF3:=hF2.up s3 fun _ _ z=>(by cases z)
 have o:=hF2.old n3
 have ea3:=s03 _ _ ea (by simp)
 walk_at"st"
 refine w1v ?_
 walk_at"st"
 refine u4n g3 (by rfl) (by rfl) ?_
 walk_at"mini"
 refine u1o (by walk_at"om") ?_
 walk_at"mini"
 refine⟨_,ea3,?_⟩
 refine u6x ⟨⟨ea3,Nat.le_of_ble_eq_true rfl⟩,fun k hk=>by rw [List.mem_singleton.mp hk];exact Nat.le_of_ble_eq_true rfl,?_⟩
 simp only [List.set_cons_succ,List.set_cons_zero]
 walk_at"mini"
 refine v8d (by walk_at"om") (s03 _ _ e1 (by simp)) hx.1 (by rw [hx.2];decide) ⟨⟨ea3,Nat.le_of_ble_eq_true rfl⟩,fun k hk=>by rw [List.mem_singleton.mp hk];exact Nat.le_of_ble_eq_true rfl,?_⟩
 simp only [List.set_cons_succ,List.set_cons_zero]
 walk_at"mini"
 refine v8d (by walk_at"om") (s03 _ _ e2 (by simp)) hy.1 (by rw [hy.2];decide) ⟨⟨ea3,Nat.le_of_ble_eq_true rfl⟩,fun a n4=>?_⟩
 walk_at"mini"
 have s4:=Same.new (F:=[]) (o:=.list [V x,V y]) n4
 have g4:=u0c (σ:=σ3) (a:=a) (o:=.list [V x,V y])
 have c4:=s4 _ _ g3 (by simp)
 generalize σ3.put a _=σ4 at*
 have hF4:=hF3.up s4 fun _ _ z=>(by cases z)
 have hD:PgD σ4 cx d rl rt sl pl ds fs (u8d e u):=⟨hF4.gd,hL.d1,hL.d2,hF4.gl,hF4.gt,hL.r1,hL.r2,hL.r3,hL.r4,hF4.gs,hF4.gp,fun b hb z=>o b hb (List.mem_singleton.mp z)⟩
 have nfx:fr0≠cx:=u0h g2 n3
 have nsx:sa≠cx:=u0h (s12 _ _ hst (by simp)) n3
 refine y0b (K:=⟨cx,st,d,dw,0⟩) (fr:=fr0) (N:=fuel) (by decide) he hp 3 (by walk_at"om") hx hy hm (by show(0:Int)+((3:Nat):Int)<24;decide) (Nat.le_refl _) hf hD c4 g4 ⟨fun eR σ5 z f' s5 c5 z5=>?_,fun g F f eR σ5 s5 hF5 c5 _=>?_⟩
 ·have up5:∀b o,σ b=some o→b≠cx→σ5 b=some o:=fun b o e n=>s5 b o (s4 b o (s03 b o e (by simp)) (by simp)) (by simpa using n)
  refine⟨z,_,_,rfl,z5,by rfl,Nat.le_of_ble_eq_true rfl,?_⟩
  walk_at"st"
  refine x9a z5 (by rfl) (by rfl) ?_
  walk_at"mini"
  walk_at"st"
  simp only [List.set_cons_succ,List.set_cons_zero]
  walk_at"mini"
  rw [u0w M.z2o]
  refine x6q (K:=⟨cx,st,d,dw,0⟩) (by walk_at"om") rfl c5 (s5 _ _ (s4 _ _ (s3 _ _ g2 (by simp)) (by simp)) (by simpa using nfx)) fun σ6 s6=>?_
  walk_at"st"
  refine u0l 1 (s6 _ _ (up5 _ _ hst nsx) (by simp)) rfl (by decide) rfl ?_
  rw [hb eR]
  walk_at"mini"
  exact⟨⟨rfl,rfl⟩,q _⟩
 ·have up5:∀b o,σ b=some o→b≠cx→σ5 b=some o:=fun b o e n=>s5 b o (s4 b o (s03 b o e (by simp)) (by simp)) (by simpa using n)
  refine u0a (hd g F f eR hF5) fun b0 xrs=>?_
  rw [u0w M.z2o]
  refine x6q (K:=⟨cx,st,d,dw,0⟩) (by walk_at"om") rfl c5 (s5 _ _ (s4 _ _ (s3 _ _ g2 (by simp)) (by simp)) (by simpa using nfx)) fun σ6 s6=>?_
  refine u4i (hF5.at (i:=0) (by decide)) fun cs k1 k2 ok lc=>?_
  rw [k2]at xrs ⊢
  walk_at"st"
  refine u0l 1 (s6 _ _ (up5 _ _ hst nsx) (by simp)) rfl (by decide) rfl ?_
  rw [b0]
  walk_at"mini"
  refine v8d (by walk_at"om") (s6 _ _ (up5 _ _ xrs (u0h (s12 _ _ xrs (by simp)) n3)) (by simp)) ok (by walk_at"om") ?_
  refine⟨⟨rfl,rfl⟩,?_⟩
  have vb:(V cs).beq (V cs)=true:=by rw [y9t ok ok rfl,decide_eq_true rfl]
  show Q (.bool ((V cs).beq (V cs))) σ6
  rw [vb]
  exact q _
end
section
variable {c:CX} {r:Nat} {σ:Hp} {Q E:MV→Hp→Prop} {t:Tk Q E} {d rl rt sl pl:Addr} {ds fs:List (Nat×MV)}
theorem y0g {x0 x1 x5 x6 x7 x8 x10 x16 x17 x18:Option MV} {ar b1 b2:Addr} {v:MV} {e:Ex} {u:St} {x y:List Nat} {fuel:Nat} (hr:80≤r) (he:XOk e 4) (hl:Lst (LRun c 22) u) (hp:Lst (PRun c 40) u) (hF:PgF σ d rl rt sl pl ds fs) (hL:PgL ds fs rl sl pl (u8d e u) v)
  (ea:σ ar=some (.list [.ref b1,.ref b2])) (e1:σ b1=some (.list (numL x))) (e2:σ b2=some (.list (numL y))) (hx:V4 x) (hy:V4 y) (hm:Mes x 3) (hf:fuel<200) (q:∀σ',Q (.bool true) σ'):
  swps Tb (CSf c.toCx) r M.z2q [x0,x1,some (.ref d),some (.ref rt),some (.ref ar),x5,x6,x7,x8,some (.int fuel),x10,none,none,none,none,none,x16,x17,x18] σ (retQ Q) fun x _ σ1=>E x σ1:=by
 walk_at"st"
 refine u1l hF.gt (by rfl) hL.r2 ?_
 walk_at"mini"
 intro sa n1
 have s1:=Same.new (F:=[]) (o:=stO fuel (u8d e u)) n1
 have g1:=u0c (σ:=σ) (a:=sa) (o:=stO fuel (u8d e u))
 unfold stO at s1 g1
 generalize σ.put sa _=σ1 at*
 walk_at"mini"
 walk_at"st"
 refine u0l 0 (s1 _ _ ea (by simp)) rfl (by decide) rfl ?_
 walk_at"mini"
 refine x0z (s1 _ _ e1 (by simp)) hx.2 fun a1 σ2 n2 s2 g2=>?_
 walk_at"mini"
 have s12:=s1.trans s2
 refine u0l 1 (s12 _ _ ea (by simp)) rfl (by decide) rfl ?_
 walk_at"mini"
 refine x0z (s12 _ _ e2 (by simp)) hy.2 fun a2 σ3 n3 s3 g3=>?_
 walk_at"mini"
 have s23:=s2.trans s3
 have s13:=s1.trans s23
 have hF3:=hF.up s13 fun _ _ z=>(by cases z)
 have m2:=s1.none n2
 have m3:=s12.none n3
 have nG:∀{b:Addr} {o:MObj},σ b=some o→b ∉[sa,a1,a2]:=fun{b o} e z=>by
  rcases List.mem_cons.mp z with z|z
  ·exact u0h e n1 z
  rcases List.mem_cons.mp z with z|z
  ·exact u0h e m2 z
  exact u0h e m3 (List.mem_singleton.mp z)
 have nF:∀b ∈[d,rl,rt,sl,pl],b ∉[sa,a1,a2]:=fun b hb z=>by
  rcases List.mem_cons.mp z with z|z
  ·exact hF.old n1 b hb z
  rcases List.mem_cons.mp z with z|z
  ·exact hF.old m2 b hb z
  exact hF.old m3 b hb (List.mem_singleton.mp z)
 refine y0e (e:=e) (u:=u) (by decide) he hl 3 (by walk_at"om") hx hy hm (s3 _ _ g2 (by simp)) g3 (fun z=>by rw [z,n3]at g2;cases g2) (s23 _ _ g1 (by simp)) ⟨fun eR σ4 n xr s4 g4=>?_,fun g F f eR σ4 xr nx s4 hF4 g4 gx=>?_⟩
 ·have up:∀{b:Addr} {o:MObj},σ b=some o→σ4 b=some o:=fun{b o} e=>s4 _ _ (s13 _ _ e (by simp)) (nG e)
  walk_at"mini"
  rw [u0w M.z2p]
  exact x6p hr he hp (hF3.up s4 nF) hL (up ea) (up e1) (up e2) hx hy hm hf n true g4 (fun _=>rfl) (fun g F f e=>by rw [eR]at e;cases e) q
 ·have up:∀{b:Addr} {o:MObj},σ b=some o→σ4 b=some o:=fun{b o} e=>s4 _ _ (s13 _ _ e (by simp)) (nG e)
  walk_at"mini"
  rw [u0w M.z2p]
  refine x6p hr he hp (hF3.up s4 nF) hL (up ea) (up e1) (up e2) hx hy hm hf f false g4 (fun e=>by rw [eR]at e;cases e) (fun g' F' f' e _=>?_) q
  rw [eR]at e
  cases e
  exact⟨rfl,gx⟩
end
noncomputable def mkL (ss:List St):St:=ss.foldr St.seq .nil
theorem v3w:∀ss:List St,(mkL ss).items=ss.map St.mv
 |[]=>rfl
 |a::r=>congrArg (a.mv:: ·) (v3w r)
theorem v6m {P:St→Prop}:∀ss:List St,(∀s ∈ ss,P s)→Lst P (mkL ss)
 |[],_=>.nil
 |a::r,h=>.seq (h a (.head _)) (v6m r fun s hs=>h s (.tail _ hs))
section
variable {c:CX} {r:Nat} {σ:Hp} {Q E:MV→Hp→Prop} {t:Tk Q E} {d rl rt sl pl:Addr} {ds fs:List (Nat×MV)}
theorem PgF.set {fs':List (Nat×MV)} (h:PgF σ d rl rt sl pl ds fs):PgF (σ.put rt (.inst A.c_Routine fs')) d rl rt sl pl ds fs':=
 ⟨(u0g (u6a h.gd h.gt (by simp [A.c_Routine,A.c_Design]))).trans h.gd,(u0g (u6a h.gl h.gt (by simp))).trans h.gl,u0c,(u0g (u6a h.gs h.gt (by simp))).trans h.gs,(u0g (u6a h.gp h.gt (by simp))).trans h.gp⟩
theorem x6r {x0 x16 x17 x18:Option MV} {row ar b1 b2:Addr} {v:MV} {x y:List Nat} (hr:100≤r) (hF:PgF σ d rl rt sl pl ds fs) (hn:fs.length≤30) (d1:ds.lookup 113=some (.ref rl)) (d2:ds.lookup 64=none) (d3:ds.lookup 48=some v) (r1:fs.lookup 108=some (.bool true)) (r3:fs.lookup 67=some (.ref sl)) (r4:fs.lookup 68=some (.ref pl))
  (hrow:u1x σ row) (nF:∀b ∈[d,rl,rt,sl,pl],b ∉[row]) (ea:σ ar=some (.list [.ref b1,.ref b2])) (e1:σ b1=some (.list (numL x))) (e2:σ b2=some (.list (numL y))) (na:ar ∉[row]) (n1:b1 ∉[row]) (n2:b2 ∉[row]) (hx:V4 x) (hy:V4 y) (hm:Mes x 3) (q:∀σ',Q (.bool true) σ'):
  swps Tb (CSf c.toCx) r M.z2s [x0,some (.ref row),some (.ref d),some (.ref rt),some (.ref ar),none,none,none,none,none,none,none,none,none,none,none,x16,x17,x18] σ (retQ Q) fun x _ σ1=>E x σ1:=by
 walk_at"st"
 walk_at"st"
 refine v4r 1 (by walk_at"om") hrow fun e σ1 we de s1 h1=>?_
 walk_at"mini"
 walk_at"st"
 walk_at"st"
 walk_at"st"
 refine u5j (m:=151) (by walk_at"om") (by decide) h1 fun fuel σ2 hf s2 h2=>?_
 walk_at"mini"
 walk_at"st"
 refine u1o (by walk_at"om") ?_
 walk_at"mini"
 refine u5j (m:=3) (by walk_at"om") (by decide) h2 fun n σ3 hn3 s3 h3=>?_
 walk_at"mini"
 refine⟨⟨by lia,by lia⟩,?_⟩
 have s13:=s1.trans (s2.trans s3)
 have hlen:((List.range (1+(n:Int)).toNat).map fun(i:Nat)=>MV.int (i:Int)).length≤3:=by rw [List.length_map,List.length_range];lia
 refine u5g (fun i acc s=>i≤3∧∃ss:List St,acc=ss.map St.mv∧ss.length=i∧(∀x ∈ ss,St.Wf false 4 x)∧Same [row] σ s∧u1x s row) ⟨by decide,[],rfl,rfl,(fun _ h=>by cases h),s13,h3⟩ (fun i acc s z=>?_) (fun i y acc s hy z=>?_) fun acc s z=>?_
 ·refine u0a z fun hi zz501=>?_
  refine u1e zz501 fun ss zz3001 hl _=>?_
  subst zz3001
  exact⟨trivial,by rw [List.length_map];unfold u0t;lia⟩
 ·refine u0a z fun hi zz502=>?_
  refine w0z zz502 fun ss zz3002 hl hw hs hrw=>?_
  subst zz3002
  have hi':=(List.getElem?_eq_some_iff.mp hy).1
  refine⟨fun k hk=>by rw [List.mem_singleton.mp hk];exact Nat.le_of_ble_eq_true rfl,?_⟩
  simp only [List.set_cons_succ,List.set_cons_zero]
  walk_at"mini"
  refine x4o 2 (by walk_at"om") hrw fun st σ4 w4 s4 h4=>⟨Nat.lt_of_lt_of_le hi' hlen,ss++[st],by rw [List.map_append];rfl,by rw [List.length_append,hl];rfl,fun x hx=>?_,hs.trans s4,h4⟩
  refine Or.elim (List.mem_append.mp hx) (fun z=>?_) (fun z=>?_)
  ·exact hw x z
  ·rw [List.mem_singleton.mp z];exact w4
 ·refine u0a z fun hi zz503=>?_
  refine w0z zz503 fun ss zz3003 hl hw hs hrw=>?_
  subst zz3003
  intro a na'
  have s4:=Same.new (F:=[]) (o:=.list (ss.map St.mv)) na'
  have g4:=u0c (σ:=s) (a:=a) (o:=.list (ss.map St.mv))
  generalize s.put a _=σ4 at*
  have s04:=hs.two s4
  have hF4:=hF.up s04 nF
  walk_at"mini"
  walk_at"st"
  refine w1q g4 (by rw [List.length_map];lia) ?_
  walk_at"mini"
  have hss:ss.length=1+n:=by rw [hl,List.length_map,List.length_range];lia
  refine⟨⟨by simp,fun z=>?_,?_⟩,?_⟩
  ·rw [List.map_eq_nil_iff.mp z,List.length_nil]at hss
   lia
  ·rw [List.length_map,hss];unfold u0t;simp;lia
  have eB:u8d e (mkL ss)=.tup [.sym 75,.tup (ifM e::ss.map St.mv),.int 3]:=by unfold u8d;rw [v3w]
  refine u2q hF4.gt (by rfl) (by walk_at"om") ?_
  rw [u0w M.z2q]
  have up:∀{b:Addr} {o:MObj},σ b=some o→b ∉[row]→b≠rt→(σ4.put rt (.inst A.c_Routine (putN 66 (u8d e (mkL ss)) fs))) b=some o:=fun{b o} e n k=>(u0g k).trans (s04 _ _ e n)
  have k0:=u6a ea hF.gt (by simp)
  have k1:=u6a e1 hF.gt (by simp)
  have k2:=u6a e2 hF.gt (by simp)
  show swps Tb (CSf c.toCx) r M.z2q _ (σ4.put rt (.inst A.c_Routine (putN 66 (.tup [.sym 75,.tup (ifM e::ss.map St.mv),.int 3]) fs))) _ _
  rw [←eB]
  refine y0g (v:=v) (fuel:=fuel) (by walk_at"om") ⟨we,by lia⟩ (v6m ss fun s hs=>x6d (b:=false) (hw s hs)) (v6m ss fun s hs=>x5i (b:=false) (hw s hs)) hF4.set ⟨d1,d2,d3,?_,u3t _,?_,?_⟩ (up ea na k0) (up e1 n1 k1) (up e2 n2 k2) hx hy hm (by walk_at"om") q
  ·rw [u3i (by decide)];exact r1
  ·rw [u3i (by decide)];exact r3
  ·rw [u3i (by decide)];exact r4
end
theorem w4a {a b:Nat}:Mes [a,b,0,0] 3:=fun _=>by
 rw [u6r,u6r,show lo2 [0,0]=0 from rfl]
 lia
section
variable {c:CX} {r:Nat} {σ:Hp} {Q E:MV→Hp→Prop} {t:Tk Q E}
theorem y0c {b:Addr} {x:List Nat} {loc:Loc} (hl:loc.length=19) (hb:σ b=some (.list (numL x))) (hx:x.length≤9) (q:newP (.list (numL (x.map (· % 2)))) σ Q):w5x Tb (CSf c.toCx) r (.bin .Mod (.loc 16) (.int 2)) [16] true [] loc Q σ (numL x) (fun s=>s b=some (.list (numL x))):=by
 refine u5g (fun i acc s=>s=σ∧acc=numL ((x.map (· % 2)).take i)) ⟨rfl,rfl⟩ (fun i acc s z=>?_) (fun i y acc s hy z=>?_) fun acc s z=>?_
 ·refine u0a z fun zz501 zz502=>?_
  subst zz501
  subst zz502
  exact⟨hb,by rw [u0n,List.length_take,List.length_map];unfold u0t;lia⟩
 ·refine u0a z fun zz503 zz504=>?_
  subst zz503
  subst zz504
  have hi:i<x.length:=by have:=(List.getElem?_eq_some_iff.mp hy).1;rw [u0n]at this;exact this
  obtain rfl:y=.int (at0 x i:Nat):=by
   unfold numL at hy
   rw [List.getElem?_map,List.getElem?_eq_getElem hi]at hy
   unfold at0
   rw [List.getElem?_eq_getElem hi]
   exact(Option.some.inj hy).symm
  refine⟨fun k hk=>by rw [List.mem_singleton.mp hk,hl];decide,?_⟩
  walk_at"mini"
  rw [List.getElem?_set_self (by walk_at"om")]
  walk_at"mini"
  refine⟨by decide,?_⟩
  rw [w8n]
  have e:=v4d (cs:=x.map (· % 2)) (i:=i) (by rw [List.length_map];exact hi)
  have e2:at0 (x.map (· % 2)) i=at0 x i % 2:=by
   unfold at0
   rw [List.getElem?_map,List.getElem?_eq_getElem hi]
   rfl
  rw [e2]at e
  exact e
 ·refine u0a z fun zz505 zz506=>?_
  subst zz505
  subst zz506
  rw [u0n,List.take_of_length_le (Nat.le_of_eq (List.length_map ..))]
  exact q
theorem w3b {G:List Addr} {σ':Hp} {a:Addr} (s:Same G σ σ') (n:a ∉ G) (h:σ' a=none):σ a=none:=by
 cases z:σ a with
 |none=>rfl
 |some o=>have:=s _ _ z n;rw [h]at this;cases this
theorem w7x {x0:Option MV} {row d rl rt sl pl:Addr} {ds fs:List (Nat×MV)} {v:MV} (hr:110≤r) (hF:PgF σ d rl rt sl pl ds fs) (hn:fs.length≤30) (d1:ds.lookup 113=some (.ref rl)) (d2:ds.lookup 64=none) (d3:ds.lookup 48=some v) (r1:fs.lookup 108=some (.bool true)) (r3:fs.lookup 67=some (.ref sl)) (r4:fs.lookup 68=some (.ref pl))
  (hrow:u1x σ row) (nF:∀b ∈[d,rl,rt,sl,pl],b ∉[row]) (q:∀σ',Q (.bool true) σ'):
  swps Tb (CSf c.toCx) r M.z2t [x0,some (.ref row),some (.ref d),some (.ref rt),none,none,none,none,none,none,none,none,none,none,none,none,none,none,none] σ (retQ Q) fun x _ σ1=>E x σ1:=by
 walk_at"st"
 refine w6j 2 (by walk_at"om") rfl (by decide) hrow fun a1 cs σ1 n1 l1 ok1 s1 h1 e1=>?_
 walk_at"mini"
 intro z nz
 have s2:=Same.new (F:=[]) (o:=.list [.int 0,.int 0]) nz
 have e2:=u0c (σ:=σ1) (a:=z) (o:=.list [.int 0,.int 0])
 generalize σ1.put z _=σ2 at*
 refine⟨_,_,s2 _ _ e1 (by simp),e2,by rw [u0n,l1];exact Nat.le_of_ble_eq_true rfl,fun b1 nb1=>?_⟩
 obtain⟨x,hx,hm,ex⟩:∃x,V4 x∧(Mes x 3∧Mes (x.map (· % 2)) 3)∧numL cs++[.int 0,.int 0]=numL x:=by
  match cs,l1 with
  |[p,k],_=>
   refine⟨[p,k,0,0],⟨fun y hy=>?_,rfl⟩,⟨w4a,w4a⟩,rfl⟩
   rcases List.mem_cons.mp hy with e|hy
   ·rw [e];exact ok1 p (.head _)
   rcases List.mem_cons.mp hy with e|hy
   ·rw [e];exact ok1 k (.tail _ (.head _))
   rcases List.mem_cons.mp hy with e|hy
   ·rw [e];decide
   rw [List.mem_singleton.mp hy];decide
 rw [ex]
 have s3:=Same.new (F:=[]) (o:=.list (numL x)) nb1
 have e3:=u0c (σ:=σ2) (a:=b1) (o:=.list (numL x))
 have h2:=h1.up s2
 have k1:=h2.ne nb1
 have h3:=h2.up s3
 generalize σ2.put b1 _=σ3 at*
 walk_at"mini"
 refine w6j 4 (by walk_at"om") rfl (by decide) h3 fun b2 y σ4 nb2 l2 ok2 s4 h4 e4=>?_
 walk_at"mini"
 have k2:=h3.ne nb2
 intro ar nar
 have s5:=Same.new (F:=[]) (o:=.list [.ref b1,.ref b2]) nar
 have e5:=u0c (σ:=σ4) (a:=ar) (o:=.list [.ref b1,.ref b2])
 have h5:=h4.up s5
 have k3:=h4.ne nar
 generalize σ4.put ar _=σ5 at*
 walk_at"mini"
 walk_at"st"
 refine u5j (m:=4) (by walk_at"om") (by decide) h5 fun n σ6 hn4 s6 h6=>?_
 walk_at"mini"
 have o1:b1 ∉[row]:=by simpa using k1
 have o2:b2 ∉[row]:=by simpa using k2
 have o3:ar ∉[row]:=by simpa using k3
 have s06:Same [row] σ σ6:=((s1.two (s2.trans s3)).trans (s4.two s5)).trans s6
 have g1:=s6 _ _ (s5 _ _ (s4 _ _ e3 o1) (by simp)) o1
 have g2:=s6 _ _ (s5 _ _ e4 (by simp)) o2
 have g3:=s6 _ _ e5 o3
 have hF6:=hF.up s06 nF
 refine u2c (fun _=>?_) fun _=>?_
 ·walk_at"st"
  refine u1o (by walk_at"om") ?_
  walk_at"mini"
  refine u0l 0 g3 rfl (by decide) rfl ?_
  walk_at"mini"
  refine⟨_,g1,y0c rfl g1 (by rw [hx.2];decide) fun b3 nb3=>?_⟩
  have s7:=Same.new (F:=[]) (o:=.list (numL (x.map (· % 2)))) nb3
  have e7:=u0c (σ:=σ6) (a:=b3) (o:=.list (numL (x.map (· % 2))))
  have h7:=h6.up s7
  have k7:=h6.ne nb3
  have hF7:=hF6.up s7 fun _ _ z=>(by cases z)
  generalize σ6.put b3 _=σ7 at*
  have g37:=s7 _ _ g3 (by simp)
  have g27:=s7 _ _ g2 (by simp)
  walk_at"mini"
  refine v0z 0 g37 rfl (by decide) (Nat.le_of_ble_eq_true rfl) ?_
  walk_at"mini"
  rw [u0w M.z2s]
  have m3:b3≠ar:=fun z=>by rw [z,g3]at nb3;cases nb3
  have hF8:PgF (σ7.put ar (.list [.ref b3,.ref b2])) d rl rt sl pl ds fs:=hF7.up Same.put fun b hb z=>by
   rw [List.mem_singleton.mp z]at hb
   exact hF.old (w3b ((s1.two (s2.trans s3)).trans s4) o3 nar) ar hb rfl
  refine x6r (b1:=b3) (by walk_at"om") hF8 hn d1 d2 d3 r1 r3 r4 (u1w h7 (Same.put (a:=ar)) (by simpa using Ne.symm k3)) nF u0c ((u0g m3).trans e7) ((u0g (u0h e4 nar)).trans g27) o3 (by simpa using k7) o2 ⟨fun w hw=>?_,by rw [List.length_map];exact hx.2⟩ ⟨ok2,l2⟩ hm.2 q
  refine u0d (List.mem_map.mp hw) fun w _ zz507=>?_
  subst zz507
  exact Nat.lt_of_lt_of_le (Nat.mod_lt _ (by decide)) (by decide)
 ·rw [u0w M.z2s]
  exact x6r (by walk_at"om") hF6 hn d1 d2 d3 r1 r3 r4 h6 nF g3 g1 g2 o3 o1 o2 hx ⟨ok2,l2⟩ hm.1 q
theorem y0f {scr:Addr} {ns:List Int} (hr:120≤r) (h:σ scr=some (.frz ns)) (hn:ns.length≤1000) (q:∀σ',Q (.bool true) σ'):CS1 c.toCx r (.ref A.f_law) [.ref scr] σ Q E t:=by
 refine x3q (by walk_at"om") ?_
 walk_at"st"
 refine x9y (by walk_at"om") h hn fun row σ1 n1 s1 h1=>?_
 walk_at"mini"
 walk_at"st"
 refine w1a (by walk_at"om") fun d rl ds v σ2 nd nl dl s2 gd d1 d3 d2 d4 gl=>?_
 walk_at"mini"
 have h2:=h1.up s2
 walk_at"st"
 refine u4n gd (by rfl) d4 ?_
 walk_at"mini"
 refine v3e (by walk_at"om") gd d1 gl fun rt fs σ3 nt s3 gt hl gl3=>?_
 walk_at"mini"
 have k1:=h1.ne nd
 have k2:=h1.ne nl
 have k3:=h2.ne nt
 have h3:=u1w h2 s3 (by simpa using Ne.symm k2)
 have gd3:=s3 _ _ gd (fun z=>dl (by rw [List.mem_singleton.mp z];exact .head _))
 walk_at"st"
 refine u2q gt (by rfl) (by walk_at"om") ?_
 walk_at"mini"
 have nrt1:=u6a gd3 gt (by simp [A.c_Routine,A.c_Design])
 have nrt2:=u6a gl3 gt (by simp)
 have h4:u1x (σ3.put rt (.inst A.c_Routine (putN 49 (.int 4) fs))) row:=u1w h3 (Same.put (a:=rt)) (by simpa using Ne.symm k3)
 have gd4:=(u0g (o:=.inst A.c_Routine (putN 49 (.int 4) fs)) nrt1).trans gd3
 have gl4:=(u0g (o:=.inst A.c_Routine (putN 49 (.int 4) fs)) nrt2).trans gl3
 have gt4:=u0c (σ:=σ3) (a:=rt) (o:=.inst A.c_Routine (putN 49 (.int 4) fs))
 have l4:=u4k 49 (.int 4) fs
 generalize putN 49 (.int 4) fs=fs4 at*
 generalize σ3.put rt _=σ4 at*
 walk_at"st"
 intro sl nsl
 have s5:=Same.new (F:=[]) (o:=.list [.int 4,.int 4,.int 4,.int 4]) nsl
 have gs5:=u0c (σ:=σ4) (a:=sl) (o:=.list [.int 4,.int 4,.int 4,.int 4])
 have h5:=h4.up s5
 have k4:=h4.ne nsl
 have nrt3:=u0h gt4 nsl
 generalize σ4.put sl _=σ5 at*
 refine u2q (s5 _ _ gt4 (by simp)) (by rfl) (by walk_at"om") ?_
 walk_at"mini"
 have s6:Same [rt] σ5 (σ5.put rt (.inst A.c_Routine (putN 67 (.ref sl) fs4))):=Same.put
 have gt6:=u0c (σ:=σ5) (a:=rt) (o:=.inst A.c_Routine (putN 67 (.ref sl) fs4))
 have l6:=u4k 67 (.ref sl) fs4
 have f6:(putN 67 (.ref sl) fs4).lookup 67=some (.ref sl):=u3t _
 generalize putN 67 (.ref sl) fs4=fs6 at*
 generalize σ5.put rt _=σ6 at*
 have h6:=u1w h5 s6 (by simpa using Ne.symm k3)
 walk_at"st"
 intro pl npl
 have s7:=Same.new (F:=[]) (o:=.list [.tup [.sym 69,.int 4,.bool false,.sym 34,.int 1],.tup [.sym 69,.int 4,.bool false,.sym 34,.int 2]]) npl
 have gp7:=u0c (σ:=σ6) (a:=pl) (o:=.list [.tup [.sym 69,.int 4,.bool false,.sym 34,.int 1],.tup [.sym 69,.int 4,.bool false,.sym 34,.int 2]])
 have h7:=h6.up s7
 have k5:=h6.ne npl
 generalize σ6.put pl _=σ7 at*
 refine u2q (s7 _ _ gt6 (by simp)) (by rfl) (by walk_at"om") ?_
 walk_at"mini"
 walk_at"st"
 refine u2q u0c (by rfl) (by have:=u4k 68 (.ref pl) fs6;lia) ?_
 rw [u2h]
 walk_at"mini"
 have l8:=u4k 68 (.ref pl) fs6
 have l9:=u4k 108 (.bool true) (putN 68 (.ref pl) fs6)
 have r1:(putN 108 (.bool true) (putN 68 (.ref pl) fs6)).lookup 108=some (.bool true):=u3t _
 have r3:(putN 108 (.bool true) (putN 68 (.ref pl) fs6)).lookup 67=some (.ref sl):=by rw [u3i (by decide),u3i (by decide)];exact f6
 have r4:(putN 108 (.bool true) (putN 68 (.ref pl) fs6)).lookup 68=some (.ref pl):=by rw [u3i (by decide)];exact u3t _
 generalize putN 108 (.bool true) (putN 68 (.ref pl) fs6)=fs8 at*
 have s8:Same [rt] σ7 (σ7.put rt (.inst A.c_Routine fs8)):=Same.put
 have gt8:=u0c (σ:=σ7) (a:=rt) (o:=.inst A.c_Routine fs8)
 generalize σ7.put rt _=σ8 at*
 have h8:=u1w h7 s8 (by simpa using Ne.symm k3)
 have u48:∀{b:Addr} {o:MObj},σ4 b=some o→b≠rt→σ8 b=some o:=fun{b o} e n=>s8 _ _ (s7 _ _ (s6 _ _ (s5 _ _ e (by simp)) (by simpa using n)) (by simp)) (by simpa using n)
 have hF:PgF σ8 d rl rt sl pl ds fs8:=⟨u48 gd4 nrt1,u48 gl4 nrt2,gt8,s8 _ _ (s7 _ _ (s6 _ _ gs5 (by simpa using Ne.symm nrt3)) (by simp)) (by simpa using Ne.symm nrt3),s8 _ _ gp7 (by simpa using Ne.symm (u0h gt6 npl))⟩
 have nF:∀b ∈[d,rl,rt,sl,pl],b ∉[row]:=fun b hb z=>by
  have z:=List.mem_singleton.mp z
  subst z
  rcases List.mem_cons.mp hb with e|hb
  ·exact k1 e.symm
  rcases List.mem_cons.mp hb with e|hb
  ·exact k2 e.symm
  rcases List.mem_cons.mp hb with e|hb
  ·exact k3 e.symm
  rcases List.mem_cons.mp hb with e|hb
  ·exact k4 e.symm
  exact k5 (List.mem_singleton.mp hb).symm
 rw [u0w M.z2t]
 exact w7x (by walk_at"om") hF (by walk_at"om") d1 d2 d3 r1 r3 r4 h8 nF q
end
end Mine
end
section
open PySem PySem.W PyProof.Rows
set_option maxRecDepth 100000
set_option maxHeartbeats 0
namespace Mine
theorem x0u:v7r Tb.sym=true:=by kernel_rfl
theorem x7w (P:Params):Tb.subs.all (fun x=>exmOne (KK P) (.ref x.1.1) (.ref x.1.2)==some x.2)=true:=by kernel_rfl
theorem x7v (P:Params):Tb.plain.all (fun x=>x.2.all fun n=>plB Tb (KK P) x.1 n)=true:=by kernel_rfl
theorem x7u (P:Params):Tb.meths.all (fun x=>meB Tb (KK P) x.1.1 x.1.2 x.2)=true:=by kernel_rfl
theorem x7t (P:Params):Tb.clsAttrs.all (fun x=>caB Tb (KK P) x.1.1 x.1.2 x.2)=true:=by kernel_rfl
theorem x7s (P:Params):Tb.eplain.all (fun x=>x.2.all fun n=>exB Tb (KK P) x.1 n)=true:=by kernel_rfl
theorem y8f (P:Params):w8c.all (fun x=>w8d (KK P) x.1 x.2)=true:=by kernel_rfl
theorem y8g (P:Params):v1i (KK P) A.c_LimitReached A.f_GateloomError___init__=true:=by kernel_rfl
theorem y8e (P:Params):ExcSh (KK P) A.c_LimitReached:=
 .mk "LimitReached" "LimitReached" 63 [.ref 39] [.ref 39,.type "Exception",.type "BaseException",.type "object"] true [] [] false none none (some (.ref 55)) none (some (.str "LimitReached" 248)) (some (.str "LimitReached" 256)) (some (.bool true)) (by kernel_rfl) (by kernel_rfl) (by kernel_rfl) (by kernel_rfl)
theorem u0b {α:Type} {p:α→Bool} {a:α} {l:List α} (h:p a=true) (k:l.all p=true):(a::l).all p=true:=by rw [List.all_cons,h,k];rfl
theorem u3b (P:Params):F.GateloomError___init__.ok (KK P) Tb.sym=true:=by kernel_rfl
theorem w5c (P:Params):F.mask.ok (KK P) Tb.sym=true:=by kernel_rfl
theorem w8p (P:Params):F.vec.ok (KK P) Tb.sym=true:=by kernel_rfl
theorem w0w (P:Params):F.all_x.ok (KK P) Tb.sym=true:=by kernel_rfl
theorem v2j (P:Params):F.from_int.ok (KK P) Tb.sym=true:=by kernel_rfl
theorem v2i (P:Params):F.is_known.ok (KK P) Tb.sym=true:=by kernel_rfl
theorem v6r (P:Params):F.to_int.ok (KK P) Tb.sym=true:=by kernel_rfl
theorem w5e (P:Params):F.code.ok (KK P) Tb.sym=true:=by kernel_rfl
theorem v0f (P:Params):F.slice_vec.ok (KK P) Tb.sym=true:=by kernel_rfl
theorem v0i (P:Params):F.put_slice.ok (KK P) Tb.sym=true:=by kernel_rfl
theorem v6t (P:Params):F.extend.ok (KK P) Tb.sym=true:=by kernel_rfl
theorem v6q (P:Params):F.z_to_x.ok (KK P) Tb.sym=true:=by kernel_rfl
theorem w0u (P:Params):F.truth.ok (KK P) Tb.sym=true:=by kernel_rfl
theorem w8s (P:Params):F.add.ok (KK P) Tb.sym=true:=by kernel_rfl
theorem w8q (P:Params):F.sub.ok (KK P) Tb.sym=true:=by kernel_rfl
theorem v4j (P:Params):F.ordered.ok (KK P) Tb.sym=true:=by kernel_rfl
theorem w5d (P:Params):F.less.ok (KK P) Tb.sym=true:=by kernel_rfl
theorem v4k (P:Params):F.one_bit.ok (KK P) Tb.sym=true:=by kernel_rfl
theorem v4n (P:Params):F.bit_not.ok (KK P) Tb.sym=true:=by kernel_rfl
theorem v4o (P:Params):F.bit_and.ok (KK P) Tb.sym=true:=by kernel_rfl
theorem v4m (P:Params):F.bit_xor.ok (KK P) Tb.sym=true:=by kernel_rfl
theorem w0v (P:Params):F.equal.ok (KK P) Tb.sym=true:=by kernel_rfl
theorem v0j (P:Params):F.not_equal.ok (KK P) Tb.sym=true:=by kernel_rfl
theorem v2h (P:Params):F.matchesV.ok (KK P) Tb.sym=true:=by kernel_rfl
theorem v6u (P:Params):F.choose.ok (KK P) Tb.sym=true:=by kernel_rfl
theorem u9e (P:Params):F.arithmetic.ok (KK P) Tb.sym=true:=by kernel_rfl
theorem u9d (P:Params):F.comparison.ok (KK P) Tb.sym=true:=by kernel_rfl
theorem v4l (P:Params):F.bitwise.ok (KK P) Tb.sym=true:=by kernel_rfl
theorem v6v (P:Params):F.binary.ok (KK P) Tb.sym=true:=by kernel_rfl
theorem v2f (P:Params):F.whole_of.ok (KK P) Tb.sym=true:=by kernel_rfl
theorem u7x (P:Params):F.conditional.ok (KK P) Tb.sym=true:=by kernel_rfl
theorem v2k (P:Params):F.evaluate.ok (KK P) Tb.sym=true:=by kernel_rfl
theorem v6s (P:Params):F.locate.ok (KK P) Tb.sym=true:=by kernel_rfl
theorem u7j (P:Params):F.holder_width.ok (KK P) Tb.sym=true:=by kernel_rfl
theorem u6c (P:Params):F.resolve_target.ok (KK P) Tb.sym=true:=by kernel_rfl
theorem u9b (P:Params):F.store_rows.ok (KK P) Tb.sym=true:=by kernel_rfl
theorem u6f (P:Params):F.Store___init__.ok (KK P) Tb.sym=true:=by kernel_rfl
theorem v0r (P:Params):F.Store_get.ok (KK P) Tb.sym=true:=by kernel_rfl
theorem u6e (P:Params):F.Store_set_bits.ok (KK P) Tb.sym=true:=by kernel_rfl
theorem u4s (P:Params):F.Context___init__.ok (KK P) Tb.sym=true:=by kernel_rfl
theorem u2n (P:Params):F.FunctionContext___init__.ok (KK P) Tb.sym=true:=by kernel_rfl
theorem u3m (P:Params):F.FunctionContext_call.ok (KK P) Tb.sym=true:=by kernel_rfl
theorem u2j (P:Params):F.FunctionContext_new_frame.ok (KK P) Tb.sym=true:=by kernel_rfl
theorem u3n (P:Params):F.FunctionContext_burn.ok (KK P) Tb.sym=true:=by kernel_rfl
theorem u2v (P:Params):F.FunctionContext_is_true.ok (KK P) Tb.sym=true:=by kernel_rfl
theorem v0h (P:Params):F.run_block.ok (KK P) Tb.sym=true:=by kernel_rfl
theorem v4h (P:Params):F.run_set.ok (KK P) Tb.sym=true:=by kernel_rfl
theorem v2g (P:Params):F.run_case.ok (KK P) Tb.sym=true:=by kernel_rfl
theorem v0g (P:Params):F.run_while.ok (KK P) Tb.sym=true:=by kernel_rfl
theorem u9c (P:Params):F.run_repeat.ok (KK P) Tb.sym=true:=by kernel_rfl
theorem v4i (P:Params):F.run_for.ok (KK P) Tb.sym=true:=by kernel_rfl
theorem u6v (P:Params):F.run_statement.ok (KK P) Tb.sym=true:=by kernel_rfl
theorem u4r (P:Params):F.Routine___init__.ok (KK P) Tb.sym=true:=by kernel_rfl
theorem u5k (P:Params):F.Design___init__.ok (KK P) Tb.sym=true:=by kernel_rfl
theorem u4f (P:Params):F.Design_add_routine.ok (KK P) Tb.sym=true:=by kernel_rfl
theorem u6g (P:Params):F.Design_routine.ok (KK P) Tb.sym=true:=by kernel_rfl
theorem v2n (P:Params):F.xlaw_row.ok (KK P) Tb.sym=true:=by kernel_rfl
theorem v0m (P:Params):F.xlaw_next.ok (KK P) Tb.sym=true:=by kernel_rfl
theorem v0q (P:Params):F.xlaw_bits.ok (KK P) Tb.sym=true:=by kernel_rfl
theorem v0n (P:Params):F.xlaw_made.ok (KK P) Tb.sym=true:=by kernel_rfl
theorem v0p (P:Params):F.xlaw_expr.ok (KK P) Tb.sym=true:=by kernel_rfl
theorem v0k (P:Params):F.xlaw_test.ok (KK P) Tb.sym=true:=by kernel_rfl
theorem v2l (P:Params):F.xlaw_set.ok (KK P) Tb.sym=true:=by kernel_rfl
theorem u6d (P:Params):F.xlaw_statement.ok (KK P) Tb.sym=true:=by kernel_rfl
theorem u9h (P:Params):F.xlaw_codes.ok (KK P) Tb.sym=true:=by kernel_rfl
theorem u7y (P:Params):F.xlaw_figure.ok (KK P) Tb.sym=true:=by kernel_rfl
theorem v0l (P:Params):F.xlaw_same.ok (KK P) Tb.sym=true:=by kernel_rfl
theorem u9f (P:Params):F.xlaw_value.ok (KK P) Tb.sym=true:=by kernel_rfl
theorem u9i (P:Params):F.xlaw_burnt.ok (KK P) Tb.sym=true:=by kernel_rfl
theorem u9g (P:Params):F.xlaw_meets.ok (KK P) Tb.sym=true:=by kernel_rfl
theorem v0o (P:Params):F.xlaw_loop.ok (KK P) Tb.sym=true:=by kernel_rfl
theorem v2m (P:Params):F.xlaw_run.ok (KK P) Tb.sym=true:=by kernel_rfl
theorem u7z (P:Params):F.xlaw_called.ok (KK P) Tb.sym=true:=by kernel_rfl
theorem u7k (P:Params):F.xlaw_entered.ok (KK P) Tb.sym=true:=by kernel_rfl
theorem w8r (P:Params):F.law.ok (KK P) Tb.sym=true:=by kernel_rfl
theorem x7x (P:Params):cxB Tb (KK P)=true:=by
 unfold cxB
 rw [x7w,x7v,x7u,x7t,x7s];rfl
theorem x7r (P:Params):fns.all (fun x=>x.ok (KK P) Tb.sym)=true:=
 u0b (u3b P)<|u0b (w5c P)<|u0b (w8p P)<|u0b (w0w P)<|u0b (v2j P)<|u0b (v2i P)<|u0b (v6r P)<|u0b (w5e P)<|u0b (v0f P)<|u0b (v0i P)<|u0b (v6t P)<|u0b (v6q P)<|u0b (w0u P)<|u0b (w8s P)<|u0b (w8q P)<|u0b (v4j P)<|u0b (w5d P)<|u0b (v4k P)<|u0b (v4n P)<|u0b (v4o P)<|u0b (v4m P)<|u0b (w0v P)<|u0b (v0j P)<|u0b (v2h P)<|u0b (v6u P)<|u0b (u9e P)<|u0b (u9d P)<|u0b (v4l P)<|u0b (v6v P)<|u0b (v2f P)<|u0b (u7x P)<|u0b (v2k P)<|u0b (v6s P)<|u0b (u7j P)<|u0b (u6c P)<|u0b (u9b P)<|u0b (u6f P)<|u0b (v0r P)<|u0b (u6e P)<|u0b (u4s P)<|u0b (u2n P)<|u0b (u3m P)<|u0b (u2j P)<|u0b (u3n P)<|u0b (u2v P)<|u0b (v0h P)<|u0b (v4h P)<|u0b (v2g P)<|u0b (v0g P)<|u0b (u9c P)<|u0b (v4i P)<|u0b (u6v P)<|u0b (u4r P)<|u0b (u5k P)<|u0b (u4f P)<|u0b (u6g P)<|u0b (v2n P)<|u0b (v0m P)<|u0b (v0q P)<|u0b (v0n P)<|u0b (v0p P)<|u0b (v0k P)<|u0b (v2l P)<|u0b (u6d P)<|u0b (u9h P)<|u0b (u7y P)<|u0b (v0l P)<|u0b (u9f P)<|u0b (u9i P)<|u0b (u9g P)<|u0b (v0o P)<|u0b (v2m P)<|u0b (u7z P)<|u0b (u7k P)<|u0b (w8r P)<|rfl
theorem y8k (P:Params):v4p (KK P)=true:=by
 unfold v4p
 rw [x7x,x7r,y8f,y8g];rfl
end Mine
end
section
open PySem PySem.W PyProof.Rows
set_option maxRecDepth 100000
set_option maxHeartbeats 400000
namespace Mine
theorem j7 (P:Params):nsIn (KK P) mainGlobals u5o.name=some (some (.ref A.f_law)):=by kernel_rfl
theorem head (walk:WalkO qv loose (XL qv []) hk.says RW.row.toRowW u5o [] (fun f vs=>PySem.call f vs)):RW.Holds:=
 holds_law x2n fun said=>holds_open (q:=qv) (loose:=loose) (Xt:=Xt) (XP:=XL qv []) (Yf:=hk.obs) (Ya:=hk.val) (YP:=hk.says) (N:=6000) x2p hk.of hk.keeps
  (fun _ e=>xl_of _ (Bool.and_eq_true_iff.mp e).1) XL.keeps j1 j2 j3 (fun _ e=>recFacts_of (Bool.and_eq_true_iff.mp e).2) rfl said j4 j5 j6 walk
theorem x9p (law:∀(c:CX) (ns:List Int) (a:Addr) (σ:Hp),ns.length≤63→σ a=some (.frz ns)→(∀b,b≠a→σ b=none)→u0p c.toCx 190 (.ref A.f_law) [.ref a] σ (fun v _=>v=.bool true) (fun _ _=>False)):
  WalkO qv loose (XL qv []) hk.says RW.row.toRowW u5o [] (fun f vs=>PySem.call f vs):=by
 intro w s₀ s₁ mg mb G Y fa o pm cd doc dV kV ho hd hcd hD hmg hg args vals as hpre hlay hrd hwl hlo
 have X:(KK w.params).In s₁.heap:=kIn_of Y
 refine Ground.open G ?_
 intro T B D TE TW
 wrow_args hpre hlay hrd hwl hlo
 have TR:=topRead_of T
 have ef:mg u5o.name=some (.ref A.f_law):=mg_of X TR.g (j7 _)
 rw [hmg]at ef
 obtain rfl:fa=A.f_law:=by simpa using ef
 rename IntsAre _ _=>hI
 rename Heap.IsList _ _ _=>hL
 rename ¬_<_=>hlen
 rename Addr=>l
 rename List Int=>ns
 let pre:CxPre Tb:={prog:=RW.row.prog,w:=w,K:=KK w.params,base:=s₁.heap,p:=qv,loose:=looseW qv loose,mg:=mg,mb:=mb,os:=s₁.os,g:=s₁.gens,d:=s₁.drawn,hK:=X,hT:=TR}
 have hcx:cxB Tb (KK w.params)=true:=x7x _
 let c:CX:={pre.mk' x0u hcx with hF:=y8k w.params,hX:=y8e w.params}
 have e1:c.toCx=pre.mk' x0u hcx:=rfl
 have I:Inv c.toCx [] (fun _=>none) (fun b=>if b=l then some (.frz ns)else none) s₁.heap:=by
  refine⟨fun _ _ e=>e,fun _ _ e=>(by cases e),fun _ _ e=>(by cases e),fun a o e=>?_,fun e he=>(by cases he),fun _ h=>False.elim h⟩
  split at e
  ·rename_i q;subst q;cases e;exact⟨.inr rfl,_,hL,hI⟩
  ·cases e
 have L:=u0p.at<|law c ns l (fun b=>if b=l then some (.frz ns)else none) (by omega) (if_pos rfl) (fun b hb=>if_neg hb)
 have hac:ACtx callerA [] 190:=⟨fun _=>rfl,by decide,rfl,by decide⟩
 have W:=L callerA [] (fun _=>none) s₁.heap s₁.toks [.ref l] hac I (.cons (.mk_ref _) .nil)
 refine wpAny_mono W (fun v s' p=>?_) (fun e s' p=>?_)
 ·obtain⟨h',t',own',σ',rfl,I',x',k',m,rm,rfl⟩:=p
  rw [rm.bool_inv]
  refine GoodW.toG ⟨.inl ⟨_,.bool true,[],rfl,fun cls=>raisesW_false (r:=RW.row.toRowW) (fun _ h=>(nomatch h)) cls,.bool _,postW_of (r:=RW.row.toRowW) rfl (w_eq_bool (w_res rfl) w_lit) (by decide),fun _=>⟨.nil,fun _ h=>(nomatch h)⟩⟩,fun b o e=>I'.base b o e,rfl,hg⟩
 ·obtain⟨h',t',own',σ',_,I',x',k',a,C,fs,_,_,p⟩:=p
  exact p.elim
theorem z0f (c:CX) (ns:List Int) (a:Addr) (σ:Hp) (h:ns.length≤63) (h1:σ a=some (.frz ns)) (_:∀b,b≠a→σ b=none):u0p c.toCx 190 (.ref A.f_law) [.ref a] σ (fun v _=>v=.bool true) (fun _ _=>False):=
 y0f (t:={}) (by decide) h1 (by omega) fun _=>rfl
end Mine
end
set_option maxRecDepth 100000 in
set_option maxHeartbeats 8000000 in
theorem PySem.Challenge.cw_nn0340_01_holds : PySem.Challenge.rw_nn0340_01.Holds := by
 exact Mine.head (Mine.x9p Mine.z0f)
