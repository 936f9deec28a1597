import PyProof.Rows.All
import Wide.All
import OpenK.AllK
import Wide.FinOn
import Lean
import PySem.Challenge.RW_nt0650_01
set_option Elab.async false
local macro_rules | `(tactic| walk_at $s:str) => `(tactic| k_extra $s)
-- HdBase
section
open PySem PySem.W PyProof.Rows
set_option Elab.async false
namespace NtHd
set_option maxRecDepth 100000
noncomputable def insAll : List Obj → Nat → BT → BT
  | [], _, t => t
  | o :: r, n, t => insAll r (n + 1) (t.ins n o)
noncomputable def bootT (P : Params) : BT := insAll (boot_heap P).objs.toList 0 .nil
noncomputable def bootN : Nat := 11
noncomputable def S0 (w : World) (os : OsState) : SharedT := ⟨bootT w.params, bootN, (boot_heap w.params).life, Array.mk [], boot_drawn, boot_toks, os⟩
theorem boot_abs (P : Params) : absHeap (bootT P) bootN (boot_heap P).life = boot_heap P := by kernel_rfl
end NtHd

end
-- HdT3
section
open PySem PySem.W PySem.Calls PyProof.Rows
set_option Elab.async false
namespace NtHd
set_option maxRecDepth 100000
set_option maxHeartbeats 0
noncomputable abbrev pw := PySem.Challenge.pw_nt0650_01
/-- the run over the tree, whole -/
noncomputable def runT (st : SharedT → Thread → Option (SharedT × Thread)) (ok : Thread → Bool) : Nat → SharedT → Thread → Option SharedT
  | 0, _, _ => none
  | n + 1, s, t => match through t with
    | true => some s
    | false => match ok t with
      | false => none
      | true => match st s t with
        | some (s', t') => runT st ok n s' t'
        | none => none
theorem runT_of {tb : String → Option Builtin} {p : Program} {w : World} {n₀ : Nat} {ann : Option Value} : ∀ {n : Nat} {s s' : SharedT} {t : Thread}, runT (stepT (denote tb) p w) (stepOk n₀ ann) n s t = some s' → topRun tb p w n₀ ann n s.abs t = some s'.abs
  | 0, _, _, _, h => by cases h
  | n + 1, s, s', t, h => by
    unfold runT at h
    unfold topRun
    cases he : through t with
    | true => rw [he] at h; cases h; rfl
    | false =>
      rw [he] at h
      cases hk : stepOk n₀ ann t with
      | false => rw [hk] at h; cases h
      | true =>
        rw [hk] at h
        cases hs : stepT (denote tb) p w s t with
        | none => rw [hs] at h; cases h
        | some r => obtain ⟨s₂, t₂⟩ := r; rw [hs] at h; rw [stepT_spec hs]; exact runT_of h
theorem left_of {p q : Program} {loose : List Str} {Xt : Shared → Bool} {α : Type} {Yf : Shared → α} {Ya : World → α} {N : Nat} {H₀ : Params → Heap} {gs₀ : Array GenState} {d₀ : Drawn} {k₀ m₀ : Nat} {ann : Option Value} {S₀ : World → OsState → SharedT}
    (open_ : ∀ w : World, (fencedOpening treeTable p w N).map (fun s => (s.heap, s.gens, s.drawn, s.toks)) = some (H₀ w.params, gs₀, d₀, k₀))
    (size : ∀ w : World, ((H₀ w.params).isNs mainGlobals && gs₀.size == 0, (H₀ w.params).objs.size, (H₀ w.params).nsMap mainGlobals "__annotations__") = (true, m₀, ann))
    (start : ∀ w os, (S₀ w os).abs = ⟨H₀ w.params, gs₀, d₀, k₀, os⟩)
    (run : ∀ (w : World) (os : OsState), (runT (stepT (denote treeTable) p w) (stepOk m₀ ann) N (S₀ w os) (topStub p)).map (fun s =>
      (staticsOk (importedModules p.main.body) (H₀ w.params) s.abs.heap && namesBound p s.abs.heap && gensDone s.abs && laidKept (H₀ w.params) s.abs.heap, openSeen q loose (importedModules p.main.body) Xt true s.abs, Yf s.abs)) = some (true, openGood q loose, Ya w)) :
    LeftO p q loose Xt Yf Ya N := fun w => by
  obtain ⟨⟨h, gs, d, k, os⟩, e, e'⟩ := Option.map_eq_some_iff.mp (open_ w)
  obtain ⟨rfl, rfl, rfl, rfl⟩ : h = H₀ w.params ∧ gs = gs₀ ∧ d = d₀ ∧ k = k₀ := by simpa using e'
  obtain ⟨z1, z2, z3⟩ : _ ∧ _ ∧ _ := by simpa only [Prod.mk.injEq] using size w
  obtain ⟨sT, r, l⟩ := Option.map_eq_some_iff.mp (run w os)
  obtain ⟨l1, l2, l3⟩ : _ ∧ _ ∧ _ := by simpa only [Prod.mk.injEq] using l
  have r := runT_of r
  rw [start] at r
  have t : topFrom treeTable p w N ⟨H₀ w.params, gs, d, k, os⟩ = some sT.abs := by
    unfold topFrom
    dsimp only
    rw [z1, z2, z3, r]
    show (match staticsOk (importedModules p.main.body) (H₀ w.params) sT.abs.heap && namesBound p sT.abs.heap && gensDone sT.abs && laidKept (H₀ w.params) sT.abs.heap with | true => _ | false => _) = _
    rw [l1]
  unfold openEnds
  rw [e]
  show (topFrom treeTable p w N _).map _ = _
  rw [t]
  exact congrArg some (Prod.ext l2 l3)
end NtHd

end
-- HdT4
section
open PySem PySem.W PySem.Calls PyProof.Rows
set_option Elab.async false
namespace NtHd
set_option maxRecDepth 100000
set_option maxHeartbeats 0
noncomputable abbrev stF (p : Program) (w : World) : SharedT → Thread → Option (SharedT × Thread) := PySem.W.Fast.tw10156331382660048174 (PySem.W.Fast.tw11892475500146522536 PySem.W.Fast.tw14364793385576792824) p w
noncomputable abbrev okF (m : Nat) (ann : Option Value) : Thread → Bool := PySem.W.Fast.tw6613529449190102663 m ann
theorem stF_eq (p : Program) (w : World) : stepT (denote treeTable) p w = stF p w := by
  unfold stF
  rw [PySem.W.Fast.te10156331382660048174, PySem.W.Fast.te11892475500146522536, PySem.W.Fast.te14364793385576792824]
theorem okF_eq (m : Nat) (ann : Option Value) : stepOk m ann = okF m ann := by
  unfold okF
  rw [PySem.W.Fast.te6613529449190102663]
theorem seenF_eq : @openSeen = PySem.W.Fast.tw4187177175401517315 := PySem.W.Fast.te4187177175401517315
noncomputable def vw : Program := view pw [76]
noncomputable def loose : List Str := List.map Str.ofString ["_wall", "T_NONE", "T_NIL", "T_BOOLEAN", "T_LIGHT", "T_NUMBER", "T_STRING", "T_TABLE", "T_FUNCTION", "T_USERDATA", "T_THREAD", "T_PROTO", "T_UPVAL", "HASH_MASK", "LuaError", "HeapObject", "LightValue", "is_number", "type_of", "is_collectable", "raw_equal", "string_hash", "log2", "ceil_log2", "MAX_BITS", "MAX_ARRAY", "BASE_SIZE", "SLOT_SIZE", "NODE_SIZE", "DeadKey", "Node", "array_index", "compute_sizes", "count_key", "Table", "THREAD_OK", "MULTIPLE", "MIN_STACK", "SIZE_CLOSURE", "SIZE_USERDATA", "SIZE_THREAD", "LuaClosure", "PyClosure", "Userdata", "CallInfo", "Thread", "Global", "is_function", "object_text", "hex_text", "join_upvals", "env_of", "set_env", "same_object", "Proto", "SIZE_UPVAL", "UpVal", "Ground", "spot_of", "open_at", "put_open", "find_plain", "take_closed", "_law_numbers", "_law_deed", "_law_stands", "_law_call_right", "_law_function_right", "_law_hex", "_law_objects_right"]
noncomputable abbrev rw0 := PySem.Challenge.rw_nt0650_01
noncomputable def Xt (s : Shared) : Bool := xlAt vw [] s && recOk (RowW.records rw0.row.toRowW) s
end NtHd

end
-- HdK
section
open PySem PySem.W PySem.Calls PyProof.Rows NtHd
set_option Elab.async false
namespace NtMine
set_option maxRecDepth 100000
noncomputable def nthS : List Stmt → Nat → Stmt
  | [], _ => .Pass default
  | s :: _, 0 => s
  | _ :: r, n + 1 => nthS r n
noncomputable def inCls : Stmt → List Stmt
  | .ClassDef _ _ _ b _ _ _ _ _ _ _ => b
  | _ => []
noncomputable def fnP : Stmt → Arguments
  | .FunctionDef _ a _ _ _ _ _ _ _ _ => a
  | _ => default
noncomputable def fnB : Stmt → List Stmt
  | .FunctionDef _ _ b _ _ _ _ _ _ _ => b
  | _ => []
noncomputable def fnS : Stmt → Scope
  | .FunctionDef _ _ _ _ _ _ s _ _ _ => s
  | _ => default
noncomputable def stT (i : Nat) : Stmt := nthS PySem.Challenge.pw_nt0650_01.main.body i
noncomputable def stM (i j : Nat) : Stmt := nthS (inCls (stT i)) j
noncomputable def tP (i : Nat) : Arguments := fnP (stT i)
noncomputable def tB (i : Nat) : List Stmt := fnB (stT i)
noncomputable def tS (i : Nat) : Scope := fnS (stT i)
noncomputable def mP (i j : Nat) : Arguments := fnP (stM i j)
noncomputable def mB (i j : Nat) : List Stmt := fnB (stM i j)
noncomputable def mS (i j : Nat) : Scope := fnS (stM i j)
noncomputable def hd.heap_39 (P : Params) : Frag :=
  (nat_lit 2, ⟨.none, none, (.dict #[⟨(PyData.keyHash P (.ofString "type.__subclasses__.Exception.0")), (.str (.ofString "type.__subclasses__.Exception.0") 249), (.int 38 0)⟩, ⟨(PyData.keyHash P (.ofString "type.__subclasses__.Exception.n")), (.str (.ofString "type.__subclasses__.Exception.n") 250), (.int 1 0)⟩] 2), #[]⟩) ::
  (nat_lit 3, ⟨(.type "dict"), none, (.dict (List.toArray (⟨(PyData.keyHash P (.ofString "__name__")), (.str (.ofString "__name__") 165), (.str (.ofString "law_nt0650_01") 1480)⟩ :: ⟨(PyData.keyHash P (.ofString "__doc__")), (.str (.ofString "__doc__") 166), .none⟩ :: ⟨(PyData.keyHash P (.ofString "__package__")), (.str (.ofString "__package__") 167), .none⟩ :: ⟨(PyData.keyHash P (.ofString "__loader__")), (.str (.ofString "__loader__") 168), (.builtin "__main__.__loader__#opaque")⟩ :: ⟨(PyData.keyHash P (.ofString "__spec__")), (.str (.ofString "__spec__") 169), .none⟩ :: ⟨(PyData.keyHash P (.ofString "__annotations__")), (.str (.ofString "__annotations__") 170), (.ref 6)⟩ :: ⟨(PyData.keyHash P (.ofString "__builtins__")), (.str (.ofString "__builtins__") 171), (.ref 4)⟩ :: ⟨(PyData.keyHash P (.ofString "__file__")), (.str (.ofString "__file__") 173), (.str (.ofString "/claim/cut.py") 172)⟩ :: ⟨(PyData.keyHash P (.ofString "__cached__")), (.str (.ofString "__cached__") 174), .none⟩ :: ⟨(PyData.keyHash P (.ofString "_wall")), (.str (.ofString "_wall") 193), (.ref 21)⟩ :: ⟨(PyData.keyHash P (.ofString "T_NONE")), (.str (.ofString "T_NONE") 198), (.int (-1) 197)⟩ :: ⟨(PyData.keyHash P (.ofString "T_NIL")), (.str (.ofString "T_NIL") 200), (.int 0 199)⟩ :: ⟨(PyData.keyHash P (.ofString "T_BOOLEAN")), (.str (.ofString "T_BOOLEAN") 202), (.int 1 201)⟩ :: ⟨(PyData.keyHash P (.ofString "T_LIGHT")), (.str (.ofString "T_LIGHT") 204), (.int 2 203)⟩ :: ⟨(PyData.keyHash P (.ofString "T_NUMBER")), (.str (.ofString "T_NUMBER") 206), (.int 3 205)⟩ :: ⟨(PyData.keyHash P (.ofString "T_STRING")), (.str (.ofString "T_STRING") 208), (.int 4 207)⟩ :: ⟨(PyData.keyHash P (.ofString "T_TABLE")), (.str (.ofString "T_TABLE") 210), (.int 5 209)⟩ :: ⟨(PyData.keyHash P (.ofString "T_FUNCTION")), (.str (.ofString "T_FUNCTION") 212), (.int 6 211)⟩ :: ⟨(PyData.keyHash P (.ofString "T_USERDATA")), (.str (.ofString "T_USERDATA") 214), (.int 7 213)⟩ :: ⟨(PyData.keyHash P (.ofString "T_THREAD")), (.str (.ofString "T_THREAD") 216), (.int 8 215)⟩ :: ⟨(PyData.keyHash P (.ofString "T_PROTO")), (.str (.ofString "T_PROTO") 218), (.int 9 217)⟩ :: ⟨(PyData.keyHash P (.ofString "T_UPVAL")), (.str (.ofString "T_UPVAL") 220), (.int 10 219)⟩ :: ⟨(PyData.keyHash P (.ofString "HASH_MASK")), (.str (.ofString "HASH_MASK") 222), (.int 4294967295 221)⟩ :: ⟨(PyData.keyHash P (.ofString "LuaError")), (.str (.ofString "LuaError") 252), (.ref 38)⟩ :: ⟨(PyData.keyHash P (.ofString "HeapObject")), (.str (.ofString "HeapObject") 285), (.ref 58)⟩ :: ⟨(PyData.keyHash P (.ofString "LightValue")), (.str (.ofString "LightValue") 314), (.ref 79)⟩ :: ⟨(PyData.keyHash P (.ofString "is_number")), (.str (.ofString "is_number") 321), (.ref 90)⟩ :: ⟨(PyData.keyHash P (.ofString "type_of")), (.str (.ofString "type_of") 328), (.ref 97)⟩ :: ⟨(PyData.keyHash P (.ofString "is_collectable")), (.str (.ofString "is_collectable") 335), (.ref 104)⟩ :: ⟨(PyData.keyHash P (.ofString "raw_equal")), (.str (.ofString "raw_equal") 344), (.ref 111)⟩ :: ⟨(PyData.keyHash P (.ofString "string_hash")), (.str (.ofString "string_hash") 354), (.ref 118)⟩ :: ⟨(PyData.keyHash P (.ofString "log2")), (.str (.ofString "log2") 362), (.ref 125)⟩ :: ⟨(PyData.keyHash P (.ofString "ceil_log2")), (.str (.ofString "ceil_log2") 369), (.ref 132)⟩ :: ⟨(PyData.keyHash P (.ofString "MAX_BITS")), (.str (.ofString "MAX_BITS") 373), (.int 26 372)⟩ :: ⟨(PyData.keyHash P (.ofString "MAX_ARRAY")), (.str (.ofString "MAX_ARRAY") 376), (.int 67108864 375)⟩ :: ⟨(PyData.keyHash P (.ofString "BASE_SIZE")), (.str (.ofString "BASE_SIZE") 378), (.int 56 377)⟩ :: ⟨(PyData.keyHash P (.ofString "SLOT_SIZE")), (.str (.ofString "SLOT_SIZE") 380), (.int 16 379)⟩ :: ⟨(PyData.keyHash P (.ofString "NODE_SIZE")), (.str (.ofString "NODE_SIZE") 382), (.int 32 381)⟩ :: ⟨(PyData.keyHash P (.ofString "DeadKey")), (.str (.ofString "DeadKey") 411), (.ref 149)⟩ :: ⟨(PyData.keyHash P (.ofString "Node")), (.str (.ofString "Node") 449), (.ref 177)⟩ :: ⟨(PyData.keyHash P (.ofString "array_index")), (.str (.ofString "array_index") 456), (.ref 188)⟩ :: ⟨(PyData.keyHash P (.ofString "compute_sizes")), (.str (.ofString "compute_sizes") 469), (.ref 195)⟩ :: ⟨(PyData.keyHash P (.ofString "count_key")), (.str (.ofString "count_key") 478), (.ref 202)⟩ :: ⟨(PyData.keyHash P (.ofString "Table")), (.str (.ofString "Table") 783), (.ref 408)⟩ :: ⟨(PyData.keyHash P (.ofString "THREAD_OK")), (.str (.ofString "THREAD_OK") 787), (.int 0 786)⟩ :: ⟨(PyData.keyHash P (.ofString "MULTIPLE")), (.str (.ofString "MULTIPLE") 790), (.int (-1) 789)⟩ :: ⟨(PyData.keyHash P (.ofString "MIN_STACK")), (.str (.ofString "MIN_STACK") 792), (.int 20 791)⟩ :: ⟨(PyData.keyHash P (.ofString "SIZE_CLOSURE")), (.str (.ofString "SIZE_CLOSURE") 794), (.int 6 793)⟩ :: ⟨(PyData.keyHash P (.ofString "SIZE_USERDATA")), (.str (.ofString "SIZE_USERDATA") 796), (.int 5 795)⟩ :: ⟨(PyData.keyHash P (.ofString "SIZE_THREAD")), (.str (.ofString "SIZE_THREAD") 798), (.int 20 797)⟩ :: ⟨(PyData.keyHash P (.ofString "LuaClosure")), (.str (.ofString "LuaClosure") 862), (.ref 456)⟩ :: ⟨(PyData.keyHash P (.ofString "PyClosure")), (.str (.ofString "PyClosure") 927), (.ref 504)⟩ :: ⟨(PyData.keyHash P (.ofString "Userdata")), (.str (.ofString "Userdata") 958), (.ref 523)⟩ :: ⟨(PyData.keyHash P (.ofString "CallInfo")), (.str (.ofString "CallInfo") 1012), (.ref 556)⟩ :: ⟨(PyData.keyHash P (.ofString "Thread")), (.str (.ofString "Thread") 1174), (.ref 677)⟩ :: ⟨(PyData.keyHash P (.ofString "Global")), (.str (.ofString "Global") 1219), (.ref 703)⟩ :: ⟨(PyData.keyHash P (.ofString "is_function")), (.str (.ofString "is_function") 1226), (.ref 714)⟩ :: ⟨(PyData.keyHash P (.ofString "object_text")), (.str (.ofString "object_text") 1234), (.ref 721)⟩ :: ⟨(PyData.keyHash P (.ofString "hex_text")), (.str (.ofString "hex_text") 1244), (.ref 728)⟩ :: ⟨(PyData.keyHash P (.ofString "join_upvals")), (.str (.ofString "join_upvals") 1254), (.ref 735)⟩ :: ⟨(PyData.keyHash P (.ofString "env_of")), (.str (.ofString "env_of") 1261), (.ref 742)⟩ :: ⟨(PyData.keyHash P (.ofString "set_env")), (.str (.ofString "set_env") 1269), (.ref 749)⟩ :: ⟨(PyData.keyHash P (.ofString "same_object")), (.str (.ofString "same_object") 1277), (.ref 756)⟩ :: ⟨(PyData.keyHash P (.ofString "Proto")), (.str (.ofString "Proto") 1341), (.ref 794)⟩ :: ⟨(PyData.keyHash P (.ofString "SIZE_UPVAL")), (.str (.ofString "SIZE_UPVAL") 1345), (.int 4 1344)⟩ :: ⟨(PyData.keyHash P (.ofString "UpVal")), (.str (.ofString "UpVal") 1404), (.ref 842)⟩ :: ⟨(PyData.keyHash P (.ofString "Ground")), (.str (.ofString "Ground") 1434), (.ref 861)⟩ :: ⟨(PyData.keyHash P (.ofString "spot_of")), (.str (.ofString "spot_of") 1443), (.ref 872)⟩ :: ⟨(PyData.keyHash P (.ofString "open_at")), (.str (.ofString "open_at") 1452), (.ref 879)⟩ :: ⟨(PyData.keyHash P (.ofString "put_open")), (.str (.ofString "put_open") 1460), (.ref 886)⟩ :: ⟨(PyData.keyHash P (.ofString "find_plain")), (.str (.ofString "find_plain") 1469), (.ref 893)⟩ :: ⟨(PyData.keyHash P (.ofString "take_closed")), (.str (.ofString "take_closed") 1479), (.ref 900)⟩ :: ⟨(PyData.keyHash P (.ofString "_law_numbers")), (.str (.ofString "_law_numbers") 1487), (.ref 905)⟩ :: ⟨(PyData.keyHash P (.ofString "_law_deed")), (.str (.ofString "_law_deed") 1493), (.ref 910)⟩ :: ⟨(PyData.keyHash P (.ofString "_law_stands")), (.str (.ofString "_law_stands") 1499), (.ref 915)⟩ :: ⟨(PyData.keyHash P (.ofString "_law_call_right")), (.str (.ofString "_law_call_right") 1505), (.ref 920)⟩ :: ⟨(PyData.keyHash P (.ofString "_law_function_right")), (.str (.ofString "_law_function_right") 1511), (.ref 925)⟩ :: ⟨(PyData.keyHash P (.ofString "_law_hex")), (.str (.ofString "_law_hex") 1520), (.ref 932)⟩ :: ⟨(PyData.keyHash P (.ofString "_law_objects_right")), (.str (.ofString "_law_objects_right") 1536), (.ref 939)⟩ :: ⟨(PyData.keyHash P (.ofString "law")), (.str (.ofString "law") 1549), (.ref 946)⟩ :: [])) 80), #[]⟩) ::
  (nat_lit 54, ⟨(.type "code"), none, (.fields #[(.str (.ofString "__init__") 266), (.str (.ofString "HeapObject.__init__") 267), (.str (.ofString "/claim/cut.py") 268), (.int 26 0), (.int 3 0), (.int 0 0), (.int 0 0), (.int 3 0), (.ref 49), (.bool true), (.int 181 0), (.ref 50), .none, (.ref 51), (.ref 52), (.ref 53), (.int 272 0), (.int 26 0), (.str (.ofString "/claim/cut.py") 273)]), #[]⟩) ::
  (nat_lit 55, ⟨(.type "function"), none, (.func ⟨(.ofString "__init__"), (.ofString "HeapObject.__init__"), (mP 16 1), (.stmts (mB 16 1)), (mS 16 1), 3, [], .none, .none, .none, (.str (.ofString "lua.values") 194), none, (.ref 54), .none, 0⟩), #[]⟩) ::
  (nat_lit 57, ⟨(.type "dict"), none, (.dict #[⟨(PyData.keyHash P (.ofString "__module__")), (.str (.ofString "__module__") 260), (.str (.ofString "lua.values") 194)⟩, ⟨(PyData.keyHash P (.ofString "__firstlineno__")), (.str (.ofString "__firstlineno__") 264), (.int 23 263)⟩, ⟨(PyData.keyHash P (.ofString "kind")), (.str (.ofString "kind") 265), (.int (-1) 197)⟩, ⟨(PyData.keyHash P (.ofString "__init__")), (.str (.ofString "__init__") 274), (.ref 55)⟩, ⟨(PyData.keyHash P (.ofString "__static_attributes__")), (.str (.ofString "__static_attributes__") 278), (.ref 56)⟩, ⟨(PyData.keyHash P (.ofString "__dict__")), (.str (.ofString "__dict__") 280), (.ref 59)⟩, ⟨(PyData.keyHash P (.ofString "__weakref__")), (.str (.ofString "__weakref__") 282), (.ref 60)⟩, ⟨(PyData.keyHash P (.ofString "__doc__")), (.str (.ofString "__doc__") 283), .none⟩] 4), #[]⟩) ::
  (nat_lit 58, ⟨(.type "type"), none, (.cls ⟨(.ofString "HeapObject"), [(.type "object")], [(.ref 58), (.type "object")], 57, (.ofString "HeapObject"), true, [], [(.ref 408), (.ref 456), (.ref 504), (.ref 523), (.ref 677), (.ref 794), (.ref 842)], false, none, false⟩), #[none, none, (some (.str (.ofString "HeapObject") 253)), (some (.str (.ofString "HeapObject") 261)), (some (.builtin "object.__new__")), (some (.bool true))]⟩) ::
  (nat_lit 75, ⟨(.type "code"), none, (.fields #[(.str (.ofString "__init__") 298), (.str (.ofString "LightValue.__init__") 299), (.str (.ofString "/claim/cut.py") 300), (.int 32 0), (.int 2 0), (.int 0 0), (.int 0 0), (.int 3 0), (.ref 70), (.bool true), (.int 181 0), (.ref 71), .none, (.ref 72), (.ref 73), (.ref 74), (.int 303 0), (.int 32 0), (.str (.ofString "/claim/cut.py") 304)]), #[]⟩) ::
  (nat_lit 76, ⟨(.type "function"), none, (.func ⟨(.ofString "__init__"), (.ofString "LightValue.__init__"), (mP 17 0), (.stmts (mB 17 0)), (mS 17 0), 3, [], .none, .none, .none, (.str (.ofString "lua.values") 194), none, (.ref 75), .none, 0⟩), #[]⟩) ::
  (nat_lit 78, ⟨(.type "dict"), none, (.dict #[⟨(PyData.keyHash P (.ofString "__module__")), (.str (.ofString "__module__") 293), (.str (.ofString "lua.values") 194)⟩, ⟨(PyData.keyHash P (.ofString "__firstlineno__")), (.str (.ofString "__firstlineno__") 297), (.int 30 296)⟩, ⟨(PyData.keyHash P (.ofString "__init__")), (.str (.ofString "__init__") 305), (.ref 76)⟩, ⟨(PyData.keyHash P (.ofString "__static_attributes__")), (.str (.ofString "__static_attributes__") 307), (.ref 77)⟩, ⟨(PyData.keyHash P (.ofString "__dict__")), (.str (.ofString "__dict__") 309), (.ref 80)⟩, ⟨(PyData.keyHash P (.ofString "__weakref__")), (.str (.ofString "__weakref__") 311), (.ref 81)⟩, ⟨(PyData.keyHash P (.ofString "__doc__")), (.str (.ofString "__doc__") 312), .none⟩] 4), #[]⟩) ::
  (nat_lit 79, ⟨(.type "type"), none, (.cls ⟨(.ofString "LightValue"), [(.type "object")], [(.ref 79), (.type "object")], 78, (.ofString "LightValue"), true, [], [], false, none, false⟩), #[none, none, (some (.str (.ofString "LightValue") 286)), (some (.str (.ofString "LightValue") 294)), (some (.builtin "object.__new__")), (some (.bool true))]⟩) ::
  (nat_lit 210, ⟨(.type "tuple"), none, (.seq #[(.int 0 492), (.int 0 493), (.int 0 494)] 0), #[]⟩) ::
  (nat_lit 216, ⟨(.type "code"), none, (.fields #[(.str (.ofString "__init__") 495), (.str (.ofString "Table.__init__") 496), (.str (.ofString "/claim/cut.py") 497), (.int 125 0), (.int 4 0), (.int 0 0), (.int 0 0), (.int 3 0), (.ref 211), (.bool true), (.int 181 0), (.ref 212), .none, (.ref 213), (.ref 214), (.ref 215), (.int 502 0), (.int 125 0), (.str (.ofString "/claim/cut.py") 503)]), #[]⟩) ::
  (nat_lit 217, ⟨(.type "function"), none, (.func ⟨(.ofString "__init__"), (.ofString "Table.__init__"), (mP 36 1), (.stmts (mB 36 1)), (mS 36 1), 3, [], (.ref 210), .none, .none, (.str (.ofString "lua.tables") 370), none, (.ref 216), .none, 0⟩), #[]⟩) ::
  (nat_lit 407, ⟨(.type "dict"), none, (.dict (List.toArray (⟨(PyData.keyHash P (.ofString "__module__")), (.str (.ofString "__module__") 486), (.str (.ofString "lua.tables") 370)⟩ :: ⟨(PyData.keyHash P (.ofString "__firstlineno__")), (.str (.ofString "__firstlineno__") 490), (.int 122 489)⟩ :: ⟨(PyData.keyHash P (.ofString "kind")), (.str (.ofString "kind") 491), (.int 5 209)⟩ :: ⟨(PyData.keyHash P (.ofString "__init__")), (.str (.ofString "__init__") 504), (.ref 217)⟩ :: ⟨(PyData.keyHash P (.ofString "main_position")), (.str (.ofString "main_position") 513), (.ref 224)⟩ :: ⟨(PyData.keyHash P (.ofString "find_node")), (.str (.ofString "find_node") 522), (.ref 231)⟩ :: ⟨(PyData.keyHash P (.ofString "free_position")), (.str (.ofString "free_position") 529), (.ref 238)⟩ :: ⟨(PyData.keyHash P (.ofString "get_int")), (.str (.ofString "get_int") 538), (.ref 245)⟩ :: ⟨(PyData.keyHash P (.ofString "get_text")), (.str (.ofString "get_text") 546), (.ref 252)⟩ :: ⟨(PyData.keyHash P (.ofString "get")), (.str (.ofString "get") 555), (.ref 259)⟩ :: ⟨(PyData.keyHash P (.ofString "set")), (.str (.ofString "set") 565), (.ref 266)⟩ :: ⟨(PyData.keyHash P (.ofString "set_int")), (.str (.ofString "set_int") 575), (.ref 273)⟩ :: ⟨(PyData.keyHash P (.ofString "set_text")), (.str (.ofString "set_text") 585), (.ref 280)⟩ :: ⟨(PyData.keyHash P (.ofString "put")), (.str (.ofString "put") 597), (.ref 287)⟩ :: ⟨(PyData.keyHash P (.ofString "new_key")), (.str (.ofString "new_key") 611), (.ref 294)⟩ :: ⟨(PyData.keyHash P (.ofString "put_again")), (.str (.ofString "put_again") 622), (.ref 301)⟩ :: ⟨(PyData.keyHash P (.ofString "count_array")), (.str (.ofString "count_array") 636), (.ref 308)⟩ :: ⟨(PyData.keyHash P (.ofString "count_nodes")), (.str (.ofString "count_nodes") 647), (.ref 315)⟩ :: ⟨(PyData.keyHash P (.ofString "rehash")), (.str (.ofString "rehash") 663), (.ref 322)⟩ :: ⟨(PyData.keyHash P (.ofString "resize")), (.str (.ofString "resize") 678), (.ref 330)⟩ :: ⟨(PyData.keyHash P (.ofString "put_back")), (.str (.ofString "put_back") 689), (.ref 337)⟩ :: ⟨(PyData.keyHash P (.ofString "make_nodes")), (.str (.ofString "make_nodes") 695), (.ref 342)⟩ :: ⟨(PyData.keyHash P (.ofString "resize_array")), (.str (.ofString "resize_array") 704), (.ref 349)⟩ :: ⟨(PyData.keyHash P (.ofString "weigh")), (.str (.ofString "weigh") 712), (.ref 356)⟩ :: ⟨(PyData.keyHash P (.ofString "find_index")), (.str (.ofString "find_index") 723), (.ref 363)⟩ :: ⟨(PyData.keyHash P (.ofString "next")), (.str (.ofString "next") 734), (.ref 370)⟩ :: ⟨(PyData.keyHash P (.ofString "length")), (.str (.ofString "length") 741), (.ref 377)⟩ :: ⟨(PyData.keyHash P (.ofString "unbound_search")), (.str (.ofString "unbound_search") 749), (.ref 384)⟩ :: ⟨(PyData.keyHash P (.ofString "bury")), (.str (.ofString "bury") 757), (.ref 391)⟩ :: ⟨(PyData.keyHash P (.ofString "bury_empty")), (.str (.ofString "bury_empty") 764), (.ref 398)⟩ :: ⟨(PyData.keyHash P (.ofString "entries")), (.str (.ofString "entries") 771), (.ref 405)⟩ :: ⟨(PyData.keyHash P (.ofString "__static_attributes__")), (.str (.ofString "__static_attributes__") 780), (.ref 406)⟩ :: ⟨(PyData.keyHash P (.ofString "__doc__")), (.str (.ofString "__doc__") 781), .none⟩ :: [])) 2), #[]⟩) ::
  (nat_lit 408, ⟨(.type "type"), none, (.cls ⟨(.ofString "Table"), [(.ref 58)], [(.ref 408), (.ref 58), (.type "object")], 407, (.ofString "Table"), true, [], [], false, none, false⟩), #[(some (.ref 203)), none, (some (.str (.ofString "Table") 479)), (some (.str (.ofString "Table") 487)), (some (.builtin "object.__new__")), (some (.bool true))]⟩) ::
  (nat_lit 423, ⟨(.type "code"), none, (.fields #[(.str (.ofString "__init__") 812), (.str (.ofString "LuaClosure.__init__") 813), (.str (.ofString "/claim/cut.py") 814), (.int 375 0), (.int 4 0), (.int 0 0), (.int 0 0), (.int 3 0), (.ref 418), (.bool true), (.int 181 0), (.ref 419), .none, (.ref 420), (.ref 421), (.ref 422), (.int 819 0), (.int 375 0), (.str (.ofString "/claim/cut.py") 820)]), #[]⟩) ::
  (nat_lit 424, ⟨(.type "function"), none, (.func ⟨(.ofString "__init__"), (.ofString "LuaClosure.__init__"), (mP 44 1), (.stmts (mB 44 1)), (mS 44 1), 3, [], .none, .none, .none, (.str (.ofString "lua.objects") 784), none, (.ref 423), .none, 0⟩), #[]⟩) ::
  (nat_lit 430, ⟨(.type "code"), none, (.fields #[(.str (.ofString "upval_count") 822), (.str (.ofString "LuaClosure.upval_count") 823), (.str (.ofString "/claim/cut.py") 824), (.int 381 0), (.int 1 0), (.int 0 0), (.int 0 0), (.int 3 0), (.ref 425), (.bool true), (.int 181 0), (.ref 426), .none, (.ref 427), (.ref 428), (.ref 429), (.int 826 0), (.int 381 0), (.str (.ofString "/claim/cut.py") 827)]), #[]⟩) ::
  (nat_lit 431, ⟨(.type "function"), none, (.func ⟨(.ofString "upval_count"), (.ofString "LuaClosure.upval_count"), (mP 44 2), (.stmts (mB 44 2)), (mS 44 2), 3, [], .none, .none, .none, (.str (.ofString "lua.objects") 784), none, (.ref 430), .none, 0⟩), #[]⟩) ::
  (nat_lit 432, ⟨(.type "property"), none, (.fields #[(.ref 431), .none, .none, .none, (.str (.ofString "upval_count") 829), (.bool false)]), #[]⟩) ::
  (nat_lit 438, ⟨(.type "code"), none, (.fields #[(.str (.ofString "get_upval") 830), (.str (.ofString "LuaClosure.get_upval") 831), (.str (.ofString "/claim/cut.py") 832), (.int 385 0), (.int 2 0), (.int 0 0), (.int 0 0), (.int 3 0), (.ref 433), (.bool true), (.int 181 0), (.ref 434), .none, (.ref 435), (.ref 436), (.ref 437), (.int 835 0), (.int 385 0), (.str (.ofString "/claim/cut.py") 836)]), #[]⟩) ::
  (nat_lit 439, ⟨(.type "function"), none, (.func ⟨(.ofString "get_upval"), (.ofString "LuaClosure.get_upval"), (mP 44 3), (.stmts (mB 44 3)), (mS 44 3), 3, [], .none, .none, .none, (.str (.ofString "lua.objects") 784), none, (.ref 438), .none, 0⟩), #[]⟩) ::
  (nat_lit 445, ⟨(.type "code"), none, (.fields #[(.str (.ofString "set_upval") 838), (.str (.ofString "LuaClosure.set_upval") 839), (.str (.ofString "/claim/cut.py") 840), (.int 388 0), (.int 3 0), (.int 0 0), (.int 0 0), (.int 3 0), (.ref 440), (.bool true), (.int 181 0), (.ref 441), .none, (.ref 442), (.ref 443), (.ref 444), (.int 844 0), (.int 388 0), (.str (.ofString "/claim/cut.py") 845)]), #[]⟩) ::
  (nat_lit 446, ⟨(.type "function"), none, (.func ⟨(.ofString "set_upval"), (.ofString "LuaClosure.set_upval"), (mP 44 4), (.stmts (mB 44 4)), (mS 44 4), 3, [], .none, .none, .none, (.str (.ofString "lua.objects") 784), none, (.ref 445), .none, 0⟩), #[]⟩) ::
  (nat_lit 452, ⟨(.type "code"), none, (.fields #[(.str (.ofString "upval_name") 847), (.str (.ofString "LuaClosure.upval_name") 848), (.str (.ofString "/claim/cut.py") 849), (.int 391 0), (.int 2 0), (.int 0 0), (.int 0 0), (.int 3 0), (.ref 447), (.bool true), (.int 181 0), (.ref 448), .none, (.ref 449), (.ref 450), (.ref 451), (.int 853 0), (.int 391 0), (.str (.ofString "/claim/cut.py") 854)]), #[]⟩) ::
  (nat_lit 453, ⟨(.type "function"), none, (.func ⟨(.ofString "upval_name"), (.ofString "LuaClosure.upval_name"), (mP 44 5), (.stmts (mB 44 5)), (mS 44 5), 3, [], .none, .none, .none, (.str (.ofString "lua.objects") 784), none, (.ref 452), .none, 0⟩), #[]⟩) ::
  (nat_lit 455, ⟨(.type "dict"), none, (.dict #[⟨(PyData.keyHash P (.ofString "__module__")), (.str (.ofString "__module__") 806), (.str (.ofString "lua.objects") 784)⟩, ⟨(PyData.keyHash P (.ofString "__firstlineno__")), (.str (.ofString "__firstlineno__") 810), (.int 372 809)⟩, ⟨(PyData.keyHash P (.ofString "kind")), (.str (.ofString "kind") 811), (.int 6 211)⟩, ⟨(PyData.keyHash P (.ofString "__init__")), (.str (.ofString "__init__") 821), (.ref 424)⟩, ⟨(PyData.keyHash P (.ofString "upval_count")), (.str (.ofString "upval_count") 829), (.ref 432)⟩, ⟨(PyData.keyHash P (.ofString "get_upval")), (.str (.ofString "get_upval") 837), (.ref 439)⟩, ⟨(PyData.keyHash P (.ofString "set_upval")), (.str (.ofString "set_upval") 846), (.ref 446)⟩, ⟨(PyData.keyHash P (.ofString "upval_name")), (.str (.ofString "upval_name") 855), (.ref 453)⟩, ⟨(PyData.keyHash P (.ofString "__static_attributes__")), (.str (.ofString "__static_attributes__") 859), (.ref 454)⟩, ⟨(PyData.keyHash P (.ofString "__doc__")), (.str (.ofString "__doc__") 860), .none⟩] 2), #[]⟩) ::
  (nat_lit 456, ⟨(.type "type"), none, (.cls ⟨(.ofString "LuaClosure"), [(.ref 58)], [(.ref 456), (.ref 58), (.type "object")], 455, (.ofString "LuaClosure"), true, [], [], false, none, false⟩), #[(some (.ref 411)), none, (some (.str (.ofString "LuaClosure") 799)), (some (.str (.ofString "LuaClosure") 807)), (some (.builtin "object.__new__")), (some (.bool true))]⟩) ::
  (nat_lit 471, ⟨(.type "code"), none, (.fields #[(.str (.ofString "__init__") 876), (.str (.ofString "PyClosure.__init__") 877), (.str (.ofString "/claim/cut.py") 878), (.int 397 0), (.int 5 0), (.int 0 0), (.int 0 0), (.int 3 0), (.ref 466), (.bool true), (.int 181 0), (.ref 467), .none, (.ref 468), (.ref 469), (.ref 470), (.int 884 0), (.int 397 0), (.str (.ofString "/claim/cut.py") 885)]), #[]⟩) ::
  (nat_lit 472, ⟨(.type "function"), none, (.func ⟨(.ofString "__init__"), (.ofString "PyClosure.__init__"), (mP 45 1), (.stmts (mB 45 1)), (mS 45 1), 3, [], .none, .none, .none, (.str (.ofString "lua.objects") 784), none, (.ref 471), .none, 0⟩), #[]⟩) ::
  (nat_lit 478, ⟨(.type "code"), none, (.fields #[(.str (.ofString "upval_count") 887), (.str (.ofString "PyClosure.upval_count") 888), (.str (.ofString "/claim/cut.py") 889), (.int 404 0), (.int 1 0), (.int 0 0), (.int 0 0), (.int 3 0), (.ref 473), (.bool true), (.int 181 0), (.ref 474), .none, (.ref 475), (.ref 476), (.ref 477), (.int 891 0), (.int 404 0), (.str (.ofString "/claim/cut.py") 892)]), #[]⟩) ::
  (nat_lit 479, ⟨(.type "function"), none, (.func ⟨(.ofString "upval_count"), (.ofString "PyClosure.upval_count"), (mP 45 2), (.stmts (mB 45 2)), (mS 45 2), 3, [], .none, .none, .none, (.str (.ofString "lua.objects") 784), none, (.ref 478), .none, 0⟩), #[]⟩) ::
  (nat_lit 480, ⟨(.type "property"), none, (.fields #[(.ref 479), .none, .none, .none, (.str (.ofString "upval_count") 894), (.bool false)]), #[]⟩) ::
  (nat_lit 486, ⟨(.type "code"), none, (.fields #[(.str (.ofString "get_upval") 895), (.str (.ofString "PyClosure.get_upval") 896), (.str (.ofString "/claim/cut.py") 897), (.int 408 0), (.int 2 0), (.int 0 0), (.int 0 0), (.int 3 0), (.ref 481), (.bool true), (.int 181 0), (.ref 482), .none, (.ref 483), (.ref 484), (.ref 485), (.int 900 0), (.int 408 0), (.str (.ofString "/claim/cut.py") 901)]), #[]⟩) ::
  (nat_lit 487, ⟨(.type "function"), none, (.func ⟨(.ofString "get_upval"), (.ofString "PyClosure.get_upval"), (mP 45 3), (.stmts (mB 45 3)), (mS 45 3), 3, [], .none, .none, .none, (.str (.ofString "lua.objects") 784), none, (.ref 486), .none, 0⟩), #[]⟩) ::
  (nat_lit 493, ⟨(.type "code"), none, (.fields #[(.str (.ofString "set_upval") 903), (.str (.ofString "PyClosure.set_upval") 904), (.str (.ofString "/claim/cut.py") 905), (.int 411 0), (.int 3 0), (.int 0 0), (.int 0 0), (.int 3 0), (.ref 488), (.bool true), (.int 181 0), (.ref 489), .none, (.ref 490), (.ref 491), (.ref 492), (.int 909 0), (.int 411 0), (.str (.ofString "/claim/cut.py") 910)]), #[]⟩) ::
  (nat_lit 494, ⟨(.type "function"), none, (.func ⟨(.ofString "set_upval"), (.ofString "PyClosure.set_upval"), (mP 45 4), (.stmts (mB 45 4)), (mS 45 4), 3, [], .none, .none, .none, (.str (.ofString "lua.objects") 784), none, (.ref 493), .none, 0⟩), #[]⟩) ::
  (nat_lit 500, ⟨(.type "code"), none, (.fields #[(.str (.ofString "upval_name") 912), (.str (.ofString "PyClosure.upval_name") 913), (.str (.ofString "/claim/cut.py") 914), (.int 414 0), (.int 2 0), (.int 0 0), (.int 0 0), (.int 3 0), (.ref 495), (.bool true), (.int 181 0), (.ref 496), .none, (.ref 497), (.ref 498), (.ref 499), (.int 917 0), (.int 414 0), (.str (.ofString "/claim/cut.py") 918)]), #[]⟩) ::
  (nat_lit 501, ⟨(.type "function"), none, (.func ⟨(.ofString "upval_name"), (.ofString "PyClosure.upval_name"), (mP 45 5), (.stmts (mB 45 5)), (mS 45 5), 3, [], .none, .none, .none, (.str (.ofString "lua.objects") 784), none, (.ref 500), .none, 0⟩), #[]⟩) ::
  (nat_lit 503, ⟨(.type "dict"), none, (.dict #[⟨(PyData.keyHash P (.ofString "__module__")), (.str (.ofString "__module__") 870), (.str (.ofString "lua.objects") 784)⟩, ⟨(PyData.keyHash P (.ofString "__firstlineno__")), (.str (.ofString "__firstlineno__") 874), (.int 394 873)⟩, ⟨(PyData.keyHash P (.ofString "kind")), (.str (.ofString "kind") 875), (.int 6 211)⟩, ⟨(PyData.keyHash P (.ofString "__init__")), (.str (.ofString "__init__") 886), (.ref 472)⟩, ⟨(PyData.keyHash P (.ofString "upval_count")), (.str (.ofString "upval_count") 894), (.ref 480)⟩, ⟨(PyData.keyHash P (.ofString "get_upval")), (.str (.ofString "get_upval") 902), (.ref 487)⟩, ⟨(PyData.keyHash P (.ofString "set_upval")), (.str (.ofString "set_upval") 911), (.ref 494)⟩, ⟨(PyData.keyHash P (.ofString "upval_name")), (.str (.ofString "upval_name") 919), (.ref 501)⟩, ⟨(PyData.keyHash P (.ofString "__static_attributes__")), (.str (.ofString "__static_attributes__") 924), (.ref 502)⟩, ⟨(PyData.keyHash P (.ofString "__doc__")), (.str (.ofString "__doc__") 925), .none⟩] 2), #[]⟩) ::
  (nat_lit 504, ⟨(.type "type"), none, (.cls ⟨(.ofString "PyClosure"), [(.ref 58)], [(.ref 504), (.ref 58), (.type "object")], 503, (.ofString "PyClosure"), true, [], [], false, none, false⟩), #[(some (.ref 459)), none, (some (.str (.ofString "PyClosure") 863)), (some (.str (.ofString "PyClosure") 871)), (some (.builtin "object.__new__")), (some (.bool true))]⟩) ::
  (nat_lit 519, ⟨(.type "code"), none, (.fields #[(.str (.ofString "__init__") 941), (.str (.ofString "Userdata.__init__") 942), (.str (.ofString "/claim/cut.py") 943), (.int 419 0), (.int 4 0), (.int 0 0), (.int 0 0), (.int 3 0), (.ref 514), (.bool true), (.int 181 0), (.ref 515), .none, (.ref 516), (.ref 517), (.ref 518), (.int 948 0), (.int 419 0), (.str (.ofString "/claim/cut.py") 949)]), #[]⟩) ::
  (nat_lit 520, ⟨(.type "function"), none, (.func ⟨(.ofString "__init__"), (.ofString "Userdata.__init__"), (mP 46 1), (.stmts (mB 46 1)), (mS 46 1), 3, [], .none, .none, .none, (.str (.ofString "lua.objects") 784), none, (.ref 519), .none, 0⟩), #[]⟩) ::
  (nat_lit 522, ⟨(.type "dict"), none, (.dict #[⟨(PyData.keyHash P (.ofString "__module__")), (.str (.ofString "__module__") 935), (.str (.ofString "lua.objects") 784)⟩, ⟨(PyData.keyHash P (.ofString "__firstlineno__")), (.str (.ofString "__firstlineno__") 939), (.int 416 938)⟩, ⟨(PyData.keyHash P (.ofString "kind")), (.str (.ofString "kind") 940), (.int 7 213)⟩, ⟨(PyData.keyHash P (.ofString "__init__")), (.str (.ofString "__init__") 950), (.ref 520)⟩, ⟨(PyData.keyHash P (.ofString "__static_attributes__")), (.str (.ofString "__static_attributes__") 955), (.ref 521)⟩, ⟨(PyData.keyHash P (.ofString "__doc__")), (.str (.ofString "__doc__") 956), .none⟩] 2), #[]⟩) ::
  (nat_lit 523, ⟨(.type "type"), none, (.cls ⟨(.ofString "Userdata"), [(.ref 58)], [(.ref 523), (.ref 58), (.type "object")], 522, (.ofString "Userdata"), true, [], [], false, none, false⟩), #[(some (.ref 507)), none, (some (.str (.ofString "Userdata") 928)), (some (.str (.ofString "Userdata") 936)), (some (.builtin "object.__new__")), (some (.bool true))]⟩) ::
  (nat_lit 538, ⟨(.type "code"), none, (.fields #[(.str (.ofString "__init__") 971), (.str (.ofString "CallInfo.__init__") 972), (.str (.ofString "/claim/cut.py") 973), (.int 427 0), (.int 5 0), (.int 0 0), (.int 0 0), (.int 3 0), (.ref 533), (.bool true), (.int 181 0), (.ref 534), .none, (.ref 535), (.ref 536), (.ref 537), (.int 979 0), (.int 427 0), (.str (.ofString "/claim/cut.py") 980)]), #[]⟩) ::
  (nat_lit 539, ⟨(.type "function"), none, (.func ⟨(.ofString "__init__"), (.ofString "CallInfo.__init__"), (mP 47 0), (.stmts (mB 47 0)), (mS 47 0), 3, [], .none, .none, .none, (.str (.ofString "lua.objects") 784), none, (.ref 538), .none, 0⟩), #[]⟩) ::
  (nat_lit 545, ⟨(.type "code"), none, (.fields #[(.str (.ofString "is_lua") 982), (.str (.ofString "CallInfo.is_lua") 983), (.str (.ofString "/claim/cut.py") 984), (.int 436 0), (.int 2 0), (.int 0 0), (.int 0 0), (.int 3 0), (.ref 540), (.bool true), (.int 181 0), (.ref 541), .none, (.ref 542), (.ref 543), (.ref 544), (.int 987 0), (.int 436 0), (.str (.ofString "/claim/cut.py") 988)]), #[]⟩) ::
  (nat_lit 546, ⟨(.type "function"), none, (.func ⟨(.ofString "is_lua"), (.ofString "CallInfo.is_lua"), (mP 47 1), (.stmts (mB 47 1)), (mS 47 1), 3, [], .none, .none, .none, (.str (.ofString "lua.objects") 784), none, (.ref 545), .none, 0⟩), #[]⟩) ::
  (nat_lit 552, ⟨(.type "code"), none, (.fields #[(.str (.ofString "copied") 990), (.str (.ofString "CallInfo.copied") 991), (.str (.ofString "/claim/cut.py") 992), (.int 439 0), (.int 1 0), (.int 0 0), (.int 0 0), (.int 3 0), (.ref 547), (.bool true), (.int 181 0), (.ref 548), .none, (.ref 549), (.ref 550), (.ref 551), (.int 995 0), (.int 439 0), (.str (.ofString "/claim/cut.py") 996)]), #[]⟩) ::
  (nat_lit 553, ⟨(.type "function"), none, (.func ⟨(.ofString "copied"), (.ofString "CallInfo.copied"), (mP 47 2), (.stmts (mB 47 2)), (mS 47 2), 3, [], .none, .none, .none, (.str (.ofString "lua.objects") 784), none, (.ref 552), .none, 0⟩), #[]⟩) ::
  (nat_lit 555, ⟨(.type "dict"), none, (.dict #[⟨(PyData.keyHash P (.ofString "__module__")), (.str (.ofString "__module__") 966), (.str (.ofString "lua.objects") 784)⟩, ⟨(PyData.keyHash P (.ofString "__firstlineno__")), (.str (.ofString "__firstlineno__") 970), (.int 425 969)⟩, ⟨(PyData.keyHash P (.ofString "__init__")), (.str (.ofString "__init__") 981), (.ref 539)⟩, ⟨(PyData.keyHash P (.ofString "is_lua")), (.str (.ofString "is_lua") 989), (.ref 546)⟩, ⟨(PyData.keyHash P (.ofString "copied")), (.str (.ofString "copied") 997), (.ref 553)⟩, ⟨(PyData.keyHash P (.ofString "__static_attributes__")), (.str (.ofString "__static_attributes__") 1005), (.ref 554)⟩, ⟨(PyData.keyHash P (.ofString "__dict__")), (.str (.ofString "__dict__") 1007), (.ref 557)⟩, ⟨(PyData.keyHash P (.ofString "__weakref__")), (.str (.ofString "__weakref__") 1009), (.ref 558)⟩, ⟨(PyData.keyHash P (.ofString "__doc__")), (.str (.ofString "__doc__") 1010), .none⟩] 4), #[]⟩) ::
  (nat_lit 556, ⟨(.type "type"), none, (.cls ⟨(.ofString "CallInfo"), [(.type "object")], [(.ref 556), (.type "object")], 555, (.ofString "CallInfo"), true, [], [], false, none, false⟩), #[none, none, (some (.str (.ofString "CallInfo") 959)), (some (.str (.ofString "CallInfo") 967)), (some (.builtin "object.__new__")), (some (.bool true))]⟩) ::
  (nat_lit 573, ⟨(.type "code"), none, (.fields #[(.str (.ofString "__init__") 1026), (.str (.ofString "Thread.__init__") 1027), (.str (.ofString "/claim/cut.py") 1028), (.int 448 0), (.int 2 0), (.int 0 0), (.int 0 0), (.int 3 0), (.ref 568), (.bool true), (.int 181 0), (.ref 569), .none, (.ref 570), (.ref 571), (.ref 572), (.int 1031 0), (.int 448 0), (.str (.ofString "/claim/cut.py") 1032)]), #[]⟩) ::
  (nat_lit 574, ⟨(.type "function"), none, (.func ⟨(.ofString "__init__"), (.ofString "Thread.__init__"), (mP 48 1), (.stmts (mB 48 1)), (mS 48 1), 3, [], .none, .none, .none, (.str (.ofString "lua.objects") 784), none, (.ref 573), .none, 0⟩), #[]⟩) ::
  (nat_lit 580, ⟨(.type "code"), none, (.fields #[(.str (.ofString "frame") 1034), (.str (.ofString "Thread.frame") 1035), (.str (.ofString "/claim/cut.py") 1036), (.int 465 0), (.int 1 0), (.int 0 0), (.int 0 0), (.int 3 0), (.ref 575), (.bool true), (.int 181 0), (.ref 576), .none, (.ref 577), (.ref 578), (.ref 579), (.int 1038 0), (.int 465 0), (.str (.ofString "/claim/cut.py") 1039)]), #[]⟩) ::
  (nat_lit 581, ⟨(.type "function"), none, (.func ⟨(.ofString "frame"), (.ofString "Thread.frame"), (mP 48 2), (.stmts (mB 48 2)), (mS 48 2), 3, [], .none, .none, .none, (.str (.ofString "lua.objects") 784), none, (.ref 580), .none, 0⟩), #[]⟩) ::
  (nat_lit 582, ⟨(.type "property"), none, (.fields #[(.ref 581), .none, .none, .none, (.str (.ofString "frame") 1041), (.bool false)]), #[]⟩) ::
  (nat_lit 588, ⟨(.type "code"), none, (.fields #[(.str (.ofString "frame_count") 1042), (.str (.ofString "Thread.frame_count") 1043), (.str (.ofString "/claim/cut.py") 1044), (.int 469 0), (.int 1 0), (.int 0 0), (.int 0 0), (.int 3 0), (.ref 583), (.bool true), (.int 181 0), (.ref 584), .none, (.ref 585), (.ref 586), (.ref 587), (.int 1046 0), (.int 469 0), (.str (.ofString "/claim/cut.py") 1047)]), #[]⟩) ::
  (nat_lit 589, ⟨(.type "function"), none, (.func ⟨(.ofString "frame_count"), (.ofString "Thread.frame_count"), (mP 48 3), (.stmts (mB 48 3)), (mS 48 3), 3, [], .none, .none, .none, (.str (.ofString "lua.objects") 784), none, (.ref 588), .none, 0⟩), #[]⟩) ::
  (nat_lit 590, ⟨(.type "property"), none, (.fields #[(.ref 589), .none, .none, .none, (.str (.ofString "frame_count") 1049), (.bool false)]), #[]⟩) ::
  (nat_lit 596, ⟨(.type "code"), none, (.fields #[(.str (.ofString "ground") 1050), (.str (.ofString "Thread.ground") 1051), (.str (.ofString "/claim/cut.py") 1052), (.int 473 0), (.int 1 0), (.int 0 0), (.int 0 0), (.int 3 0), (.ref 591), (.bool true), (.int 181 0), (.ref 592), .none, (.ref 593), (.ref 594), (.ref 595), (.int 1054 0), (.int 473 0), (.str (.ofString "/claim/cut.py") 1055)]), #[]⟩) ::
  (nat_lit 597, ⟨(.type "function"), none, (.func ⟨(.ofString "ground"), (.ofString "Thread.ground"), (mP 48 4), (.stmts (mB 48 4)), (mS 48 4), 3, [], .none, .none, .none, (.str (.ofString "lua.objects") 784), none, (.ref 596), .none, 0⟩), #[]⟩) ::
  (nat_lit 603, ⟨(.type "code"), none, (.fields #[(.str (.ofString "grow") 1057), (.str (.ofString "Thread.grow") 1058), (.str (.ofString "/claim/cut.py") 1059), (.int 477 0), (.int 2 0), (.int 0 0), (.int 0 0), (.int 3 0), (.ref 598), (.bool true), (.int 181 0), (.ref 599), .none, (.ref 600), (.ref 601), (.ref 602), (.int 1063 0), (.int 477 0), (.str (.ofString "/claim/cut.py") 1064)]), #[]⟩) ::
  (nat_lit 604, ⟨(.type "function"), none, (.func ⟨(.ofString "grow"), (.ofString "Thread.grow"), (mP 48 5), (.stmts (mB 48 5)), (mS 48 5), 3, [], .none, .none, .none, (.str (.ofString "lua.objects") 784), none, (.ref 603), .none, 0⟩), #[]⟩) ::
  (nat_lit 610, ⟨(.type "code"), none, (.fields #[(.str (.ofString "push") 1066), (.str (.ofString "Thread.push") 1067), (.str (.ofString "/claim/cut.py") 1068), (.int 482 0), (.int 2 0), (.int 0 0), (.int 0 0), (.int 3 0), (.ref 605), (.bool true), (.int 181 0), (.ref 606), .none, (.ref 607), (.ref 608), (.ref 609), (.int 1071 0), (.int 482 0), (.str (.ofString "/claim/cut.py") 1072)]), #[]⟩) ::
  (nat_lit 611, ⟨(.type "function"), none, (.func ⟨(.ofString "push"), (.ofString "Thread.push"), (mP 48 6), (.stmts (mB 48 6)), (mS 48 6), 3, [], .none, .none, .none, (.str (.ofString "lua.objects") 784), none, (.ref 610), .none, 0⟩), #[]⟩) ::
  (nat_lit 617, ⟨(.type "code"), none, (.fields #[(.str (.ofString "pop") 1074), (.str (.ofString "Thread.pop") 1075), (.str (.ofString "/claim/cut.py") 1076), (.int 488 0), (.int 1 0), (.int 0 0), (.int 0 0), (.int 3 0), (.ref 612), (.bool true), (.int 181 0), (.ref 613), .none, (.ref 614), (.ref 615), (.ref 616), (.int 1079 0), (.int 488 0), (.str (.ofString "/claim/cut.py") 1080)]), #[]⟩) ::
  (nat_lit 618, ⟨(.type "function"), none, (.func ⟨(.ofString "pop"), (.ofString "Thread.pop"), (mP 48 7), (.stmts (mB 48 7)), (mS 48 7), 3, [], .none, .none, .none, (.str (.ofString "lua.objects") 784), none, (.ref 617), .none, 0⟩), #[]⟩) ::
  (nat_lit 624, ⟨(.type "code"), none, (.fields #[(.str (.ofString "set_top") 1082), (.str (.ofString "Thread.set_top") 1083), (.str (.ofString "/claim/cut.py") 1084), (.int 494 0), (.int 2 0), (.int 0 0), (.int 0 0), (.int 3 0), (.ref 619), (.bool true), (.int 181 0), (.ref 620), .none, (.ref 621), (.ref 622), (.ref 623), (.int 1090 0), (.int 494 0), (.str (.ofString "/claim/cut.py") 1091)]), #[]⟩) ::
  (nat_lit 625, ⟨(.type "function"), none, (.func ⟨(.ofString "set_top"), (.ofString "Thread.set_top"), (mP 48 8), (.stmts (mB 48 8)), (mS 48 8), 3, [], .none, .none, .none, (.str (.ofString "lua.objects") 784), none, (.ref 624), .none, 0⟩), #[]⟩) ::
  (nat_lit 631, ⟨(.type "code"), none, (.fields #[(.str (.ofString "values") 1093), (.str (.ofString "Thread.values") 1094), (.str (.ofString "/claim/cut.py") 1095), (.int 501 0), (.int 3 0), (.int 0 0), (.int 0 0), (.int 3 0), (.ref 626), (.bool true), (.int 181 0), (.ref 627), .none, (.ref 628), (.ref 629), (.ref 630), (.int 1099 0), (.int 501 0), (.str (.ofString "/claim/cut.py") 1100)]), #[]⟩) ::
  (nat_lit 632, ⟨(.type "function"), none, (.func ⟨(.ofString "values"), (.ofString "Thread.values"), (mP 48 9), (.stmts (mB 48 9)), (mS 48 9), 3, [], .none, .none, .none, (.str (.ofString "lua.objects") 784), none, (.ref 631), .none, 0⟩), #[]⟩) ::
  (nat_lit 638, ⟨(.type "code"), none, (.fields #[(.str (.ofString "insert") 1102), (.str (.ofString "Thread.insert") 1103), (.str (.ofString "/claim/cut.py") 1104), (.int 504 0), (.int 3 0), (.int 0 0), (.int 0 0), (.int 3 0), (.ref 633), (.bool true), (.int 181 0), (.ref 634), .none, (.ref 635), (.ref 636), (.ref 637), (.int 1109 0), (.int 504 0), (.str (.ofString "/claim/cut.py") 1110)]), #[]⟩) ::
  (nat_lit 639, ⟨(.type "function"), none, (.func ⟨(.ofString "insert"), (.ofString "Thread.insert"), (mP 48 10), (.stmts (mB 48 10)), (mS 48 10), 3, [], .none, .none, .none, (.str (.ofString "lua.objects") 784), none, (.ref 638), .none, 0⟩), #[]⟩) ::
  (nat_lit 645, ⟨(.type "code"), none, (.fields #[(.str (.ofString "remove") 1112), (.str (.ofString "Thread.remove") 1113), (.str (.ofString "/claim/cut.py") 1114), (.int 511 0), (.int 2 0), (.int 0 0), (.int 0 0), (.int 3 0), (.ref 640), (.bool true), (.int 181 0), (.ref 641), .none, (.ref 642), (.ref 643), (.ref 644), (.int 1118 0), (.int 511 0), (.str (.ofString "/claim/cut.py") 1119)]), #[]⟩) ::
  (nat_lit 646, ⟨(.type "function"), none, (.func ⟨(.ofString "remove"), (.ofString "Thread.remove"), (mP 48 11), (.stmts (mB 48 11)), (mS 48 11), 3, [], .none, .none, .none, (.str (.ofString "lua.objects") 784), none, (.ref 645), .none, 0⟩), #[]⟩) ::
  (nat_lit 652, ⟨(.type "code"), none, (.fields #[(.str (.ofString "push_frame") 1121), (.str (.ofString "Thread.push_frame") 1122), (.str (.ofString "/claim/cut.py") 1123), (.int 517 0), (.int 5 0), (.int 0 0), (.int 0 0), (.int 3 0), (.ref 647), (.bool true), (.int 181 0), (.ref 648), .none, (.ref 649), (.ref 650), (.ref 651), (.int 1130 0), (.int 517 0), (.str (.ofString "/claim/cut.py") 1131)]), #[]⟩) ::
  (nat_lit 653, ⟨(.type "function"), none, (.func ⟨(.ofString "push_frame"), (.ofString "Thread.push_frame"), (mP 48 12), (.stmts (mB 48 12)), (mS 48 12), 3, [], .none, .none, .none, (.str (.ofString "lua.objects") 784), none, (.ref 652), .none, 0⟩), #[]⟩) ::
  (nat_lit 659, ⟨(.type "code"), none, (.fields #[(.str (.ofString "pop_frame") 1133), (.str (.ofString "Thread.pop_frame") 1134), (.str (.ofString "/claim/cut.py") 1135), (.int 523 0), (.int 1 0), (.int 0 0), (.int 0 0), (.int 3 0), (.ref 654), (.bool true), (.int 181 0), (.ref 655), .none, (.ref 656), (.ref 657), (.ref 658), (.int 1137 0), (.int 523 0), (.str (.ofString "/claim/cut.py") 1138)]), #[]⟩) ::
  (nat_lit 660, ⟨(.type "function"), none, (.func ⟨(.ofString "pop_frame"), (.ofString "Thread.pop_frame"), (mP 48 13), (.stmts (mB 48 13)), (mS 48 13), 3, [], .none, .none, .none, (.str (.ofString "lua.objects") 784), none, (.ref 659), .none, 0⟩), #[]⟩) ::
  (nat_lit 666, ⟨(.type "code"), none, (.fields #[(.str (.ofString "function_at") 1140), (.str (.ofString "Thread.function_at") 1141), (.str (.ofString "/claim/cut.py") 1142), (.int 526 0), (.int 2 0), (.int 0 0), (.int 0 0), (.int 3 0), (.ref 661), (.bool true), (.int 181 0), (.ref 662), .none, (.ref 663), (.ref 664), (.ref 665), (.int 1145 0), (.int 526 0), (.str (.ofString "/claim/cut.py") 1146)]), #[]⟩) ::
  (nat_lit 667, ⟨(.type "function"), none, (.func ⟨(.ofString "function_at"), (.ofString "Thread.function_at"), (mP 48 14), (.stmts (mB 48 14)), (mS 48 14), 3, [], .none, .none, .none, (.str (.ofString "lua.objects") 784), none, (.ref 666), .none, 0⟩), #[]⟩) ::
  (nat_lit 673, ⟨(.type "code"), none, (.fields #[(.str (.ofString "shrink") 1148), (.str (.ofString "Thread.shrink") 1149), (.str (.ofString "/claim/cut.py") 1150), (.int 529 0), (.int 1 0), (.int 0 0), (.int 0 0), (.int 3 0), (.ref 668), (.bool true), (.int 181 0), (.ref 669), .none, (.ref 670), (.ref 671), (.ref 672), (.int 1154 0), (.int 529 0), (.str (.ofString "/claim/cut.py") 1155)]), #[]⟩) ::
  (nat_lit 674, ⟨(.type "function"), none, (.func ⟨(.ofString "shrink"), (.ofString "Thread.shrink"), (mP 48 15), (.stmts (mB 48 15)), (mS 48 15), 3, [], .none, .none, .none, (.str (.ofString "lua.objects") 784), none, (.ref 673), .none, 0⟩), #[]⟩) ::
  (nat_lit 676, ⟨(.type "dict"), none, (.dict #[⟨(PyData.keyHash P (.ofString "__module__")), (.str (.ofString "__module__") 1020), (.str (.ofString "lua.objects") 784)⟩, ⟨(PyData.keyHash P (.ofString "__firstlineno__")), (.str (.ofString "__firstlineno__") 1024), (.int 445 1023)⟩, ⟨(PyData.keyHash P (.ofString "kind")), (.str (.ofString "kind") 1025), (.int 8 215)⟩, ⟨(PyData.keyHash P (.ofString "__init__")), (.str (.ofString "__init__") 1033), (.ref 574)⟩, ⟨(PyData.keyHash P (.ofString "frame")), (.str (.ofString "frame") 1041), (.ref 582)⟩, ⟨(PyData.keyHash P (.ofString "frame_count")), (.str (.ofString "frame_count") 1049), (.ref 590)⟩, ⟨(PyData.keyHash P (.ofString "ground")), (.str (.ofString "ground") 1056), (.ref 597)⟩, ⟨(PyData.keyHash P (.ofString "grow")), (.str (.ofString "grow") 1065), (.ref 604)⟩, ⟨(PyData.keyHash P (.ofString "push")), (.str (.ofString "push") 1073), (.ref 611)⟩, ⟨(PyData.keyHash P (.ofString "pop")), (.str (.ofString "pop") 1081), (.ref 618)⟩, ⟨(PyData.keyHash P (.ofString "set_top")), (.str (.ofString "set_top") 1092), (.ref 625)⟩, ⟨(PyData.keyHash P (.ofString "values")), (.str (.ofString "values") 1101), (.ref 632)⟩, ⟨(PyData.keyHash P (.ofString "insert")), (.str (.ofString "insert") 1111), (.ref 639)⟩, ⟨(PyData.keyHash P (.ofString "remove")), (.str (.ofString "remove") 1120), (.ref 646)⟩, ⟨(PyData.keyHash P (.ofString "push_frame")), (.str (.ofString "push_frame") 1132), (.ref 653)⟩, ⟨(PyData.keyHash P (.ofString "pop_frame")), (.str (.ofString "pop_frame") 1139), (.ref 660)⟩, ⟨(PyData.keyHash P (.ofString "function_at")), (.str (.ofString "function_at") 1147), (.ref 667)⟩, ⟨(PyData.keyHash P (.ofString "shrink")), (.str (.ofString "shrink") 1156), (.ref 674)⟩, ⟨(PyData.keyHash P (.ofString "__static_attributes__")), (.str (.ofString "__static_attributes__") 1171), (.ref 675)⟩, ⟨(PyData.keyHash P (.ofString "__doc__")), (.str (.ofString "__doc__") 1172), .none⟩] 2), #[]⟩) ::
  (nat_lit 677, ⟨(.type "type"), none, (.cls ⟨(.ofString "Thread"), [(.ref 58)], [(.ref 677), (.ref 58), (.type "object")], 676, (.ofString "Thread"), true, [], [], false, none, false⟩), #[(some (.ref 561)), none, (some (.str (.ofString "Thread") 1013)), (some (.str (.ofString "Thread") 1021)), (some (.builtin "object.__new__")), (some (.bool true))]⟩) ::
  (nat_lit 692, ⟨(.type "code"), none, (.fields #[(.str (.ofString "__init__") 1187), (.str (.ofString "Global.__init__") 1188), (.str (.ofString "/claim/cut.py") 1189), (.int 537 0), (.int 2 0), (.int 0 0), (.int 0 0), (.int 3 0), (.ref 687), (.bool true), (.int 181 0), (.ref 688), .none, (.ref 689), (.ref 690), (.ref 691), (.int 1192 0), (.int 537 0), (.str (.ofString "/claim/cut.py") 1193)]), #[]⟩) ::
  (nat_lit 693, ⟨(.type "function"), none, (.func ⟨(.ofString "__init__"), (.ofString "Global.__init__"), (mP 49 0), (.stmts (mB 49 0)), (mS 49 0), 3, [], .none, .none, .none, (.str (.ofString "lua.objects") 784), none, (.ref 692), .none, 0⟩), #[]⟩) ::
  (nat_lit 699, ⟨(.type "code"), none, (.fields #[(.str (.ofString "next_number") 1195), (.str (.ofString "Global.next_number") 1196), (.str (.ofString "/claim/cut.py") 1197), (.int 549 0), (.int 1 0), (.int 0 0), (.int 0 0), (.int 3 0), (.ref 694), (.bool true), (.int 181 0), (.ref 695), .none, (.ref 696), (.ref 697), (.ref 698), (.int 1199 0), (.int 549 0), (.str (.ofString "/claim/cut.py") 1200)]), #[]⟩) ::
  (nat_lit 700, ⟨(.type "function"), none, (.func ⟨(.ofString "next_number"), (.ofString "Global.next_number"), (mP 49 1), (.stmts (mB 49 1)), (mS 49 1), 3, [], .none, .none, .none, (.str (.ofString "lua.objects") 784), none, (.ref 699), .none, 0⟩), #[]⟩) ::
  (nat_lit 702, ⟨(.type "dict"), none, (.dict #[⟨(PyData.keyHash P (.ofString "__module__")), (.str (.ofString "__module__") 1182), (.str (.ofString "lua.objects") 784)⟩, ⟨(PyData.keyHash P (.ofString "__firstlineno__")), (.str (.ofString "__firstlineno__") 1186), (.int 535 1185)⟩, ⟨(PyData.keyHash P (.ofString "__init__")), (.str (.ofString "__init__") 1194), (.ref 693)⟩, ⟨(PyData.keyHash P (.ofString "next_number")), (.str (.ofString "next_number") 1201), (.ref 700)⟩, ⟨(PyData.keyHash P (.ofString "__static_attributes__")), (.str (.ofString "__static_attributes__") 1212), (.ref 701)⟩, ⟨(PyData.keyHash P (.ofString "__dict__")), (.str (.ofString "__dict__") 1214), (.ref 704)⟩, ⟨(PyData.keyHash P (.ofString "__weakref__")), (.str (.ofString "__weakref__") 1216), (.ref 705)⟩, ⟨(PyData.keyHash P (.ofString "__doc__")), (.str (.ofString "__doc__") 1217), .none⟩] 4), #[]⟩) ::
  (nat_lit 703, ⟨(.type "type"), none, (.cls ⟨(.ofString "Global"), [(.type "object")], [(.ref 703), (.type "object")], 702, (.ofString "Global"), true, [], [], false, none, false⟩), #[none, none, (some (.str (.ofString "Global") 1175)), (some (.str (.ofString "Global") 1183)), (some (.builtin "object.__new__")), (some (.bool true))]⟩) ::
  (nat_lit 713, ⟨(.type "code"), none, (.fields #[(.str (.ofString "is_function") 1220), (.str (.ofString "is_function") 1221), (.str (.ofString "/claim/cut.py") 1222), (.int 552 0), (.int 1 0), (.int 0 0), (.int 0 0), (.int 3 0), (.ref 708), (.bool true), (.int 181 0), (.ref 709), .none, (.ref 710), (.ref 711), (.ref 712), (.int 1224 0), (.int 552 0), (.str (.ofString "/claim/cut.py") 1225)]), #[]⟩) ::
  (nat_lit 714, ⟨(.type "function"), none, (.func ⟨(.ofString "is_function"), (.ofString "is_function"), (tP 50), (.stmts (tB 50)), (tS 50), 3, [], .none, .none, .none, (.str (.ofString "lua.objects") 784), none, (.ref 713), .none, 0⟩), #[]⟩) ::
  (nat_lit 720, ⟨(.type "code"), none, (.fields #[(.str (.ofString "object_text") 1227), (.str (.ofString "object_text") 1228), (.str (.ofString "/claim/cut.py") 1229), (.int 554 0), (.int 1 0), (.int 0 0), (.int 0 0), (.int 3 0), (.ref 715), (.bool true), (.int 181 0), (.ref 716), .none, (.ref 717), (.ref 718), (.ref 719), (.int 1232 0), (.int 554 0), (.str (.ofString "/claim/cut.py") 1233)]), #[]⟩) ::
  (nat_lit 721, ⟨(.type "function"), none, (.func ⟨(.ofString "object_text"), (.ofString "object_text"), (tP 51), (.stmts (tB 51)), (tS 51), 3, [], .none, .none, .none, (.str (.ofString "lua.objects") 784), none, (.ref 720), .none, 0⟩), #[]⟩) ::
  (nat_lit 727, ⟨(.type "code"), none, (.fields #[(.str (.ofString "hex_text") 1235), (.str (.ofString "hex_text") 1236), (.str (.ofString "/claim/cut.py") 1237), (.int 564 0), (.int 2 0), (.int 0 0), (.int 0 0), (.int 3 0), (.ref 722), (.bool true), (.int 181 0), (.ref 723), .none, (.ref 724), (.ref 725), (.ref 726), (.int 1242 0), (.int 564 0), (.str (.ofString "/claim/cut.py") 1243)]), #[]⟩) ::
  (nat_lit 728, ⟨(.type "function"), none, (.func ⟨(.ofString "hex_text"), (.ofString "hex_text"), (tP 52), (.stmts (tB 52)), (tS 52), 3, [], .none, .none, .none, (.str (.ofString "lua.objects") 784), none, (.ref 727), .none, 0⟩), #[]⟩) ::
  (nat_lit 734, ⟨(.type "code"), none, (.fields #[(.str (.ofString "join_upvals") 1245), (.str (.ofString "join_upvals") 1246), (.str (.ofString "/claim/cut.py") 1247), (.int 571 0), (.int 4 0), (.int 0 0), (.int 0 0), (.int 3 0), (.ref 729), (.bool true), (.int 181 0), (.ref 730), .none, (.ref 731), (.ref 732), (.ref 733), (.int 1252 0), (.int 571 0), (.str (.ofString "/claim/cut.py") 1253)]), #[]⟩) ::
  (nat_lit 735, ⟨(.type "function"), none, (.func ⟨(.ofString "join_upvals"), (.ofString "join_upvals"), (tP 53), (.stmts (tB 53)), (tS 53), 3, [], .none, .none, .none, (.str (.ofString "lua.objects") 784), none, (.ref 734), .none, 0⟩), #[]⟩) ::
  (nat_lit 741, ⟨(.type "code"), none, (.fields #[(.str (.ofString "env_of") 1255), (.str (.ofString "env_of") 1256), (.str (.ofString "/claim/cut.py") 1257), (.int 573 0), (.int 1 0), (.int 0 0), (.int 0 0), (.int 3 0), (.ref 736), (.bool true), (.int 181 0), (.ref 737), .none, (.ref 738), (.ref 739), (.ref 740), (.int 1259 0), (.int 573 0), (.str (.ofString "/claim/cut.py") 1260)]), #[]⟩) ::
  (nat_lit 742, ⟨(.type "function"), none, (.func ⟨(.ofString "env_of"), (.ofString "env_of"), (tP 54), (.stmts (tB 54)), (tS 54), 3, [], .none, .none, .none, (.str (.ofString "lua.objects") 784), none, (.ref 741), .none, 0⟩), #[]⟩) ::
  (nat_lit 748, ⟨(.type "code"), none, (.fields #[(.str (.ofString "set_env") 1262), (.str (.ofString "set_env") 1263), (.str (.ofString "/claim/cut.py") 1264), (.int 579 0), (.int 2 0), (.int 0 0), (.int 0 0), (.int 3 0), (.ref 743), (.bool true), (.int 181 0), (.ref 744), .none, (.ref 745), (.ref 746), (.ref 747), (.int 1267 0), (.int 579 0), (.str (.ofString "/claim/cut.py") 1268)]), #[]⟩) ::
  (nat_lit 749, ⟨(.type "function"), none, (.func ⟨(.ofString "set_env"), (.ofString "set_env"), (tP 55), (.stmts (tB 55)), (tS 55), 3, [], .none, .none, .none, (.str (.ofString "lua.objects") 784), none, (.ref 748), .none, 0⟩), #[]⟩) ::
  (nat_lit 755, ⟨(.type "code"), none, (.fields #[(.str (.ofString "same_object") 1270), (.str (.ofString "same_object") 1271), (.str (.ofString "/claim/cut.py") 1272), (.int 587 0), (.int 2 0), (.int 0 0), (.int 0 0), (.int 3 0), (.ref 750), (.bool true), (.int 181 0), (.ref 751), .none, (.ref 752), (.ref 753), (.ref 754), (.int 1275 0), (.int 587 0), (.str (.ofString "/claim/cut.py") 1276)]), #[]⟩) ::
  (nat_lit 756, ⟨(.type "function"), none, (.func ⟨(.ofString "same_object"), (.ofString "same_object"), (tP 56), (.stmts (tB 56)), (tS 56), 3, [], .none, .none, .none, (.str (.ofString "lua.objects") 784), none, (.ref 755), .none, 0⟩), #[]⟩) ::
  (nat_lit 769, ⟨(.type "code"), none, (.fields #[(.str (.ofString "__init__") 1293), (.str (.ofString "Proto.__init__") 1294), (.str (.ofString "/claim/cut.py") 1295), (.int 595 0), (.int 1 0), (.int 0 0), (.int 0 0), (.int 3 0), (.ref 764), (.bool true), (.int 181 0), (.ref 765), .none, (.ref 766), (.ref 767), (.ref 768), (.int 1297 0), (.int 595 0), (.str (.ofString "/claim/cut.py") 1298)]), #[]⟩) ::
  (nat_lit 770, ⟨(.type "function"), none, (.func ⟨(.ofString "__init__"), (.ofString "Proto.__init__"), (mP 58 1), (.stmts (mB 58 1)), (mS 58 1), 3, [], .none, .none, .none, (.str (.ofString "lua.protos") 1278), none, (.ref 769), .none, 0⟩), #[]⟩) ::
  (nat_lit 793, ⟨(.type "dict"), none, (.dict #[⟨(PyData.keyHash P (.ofString "__module__")), (.str (.ofString "__module__") 1287), (.str (.ofString "lua.protos") 1278)⟩, ⟨(PyData.keyHash P (.ofString "__firstlineno__")), (.str (.ofString "__firstlineno__") 1291), (.int 592 1290)⟩, ⟨(PyData.keyHash P (.ofString "kind")), (.str (.ofString "kind") 1292), (.int 9 217)⟩, ⟨(PyData.keyHash P (.ofString "__init__")), (.str (.ofString "__init__") 1299), (.ref 770)⟩, ⟨(PyData.keyHash P (.ofString "line_at")), (.str (.ofString "line_at") 1307), (.ref 777)⟩, ⟨(PyData.keyHash P (.ofString "local_name")), (.str (.ofString "local_name") 1316), (.ref 784)⟩, ⟨(PyData.keyHash P (.ofString "upvalue_name")), (.str (.ofString "upvalue_name") 1324), (.ref 791)⟩, ⟨(PyData.keyHash P (.ofString "__static_attributes__")), (.str (.ofString "__static_attributes__") 1338), (.ref 792)⟩, ⟨(PyData.keyHash P (.ofString "__doc__")), (.str (.ofString "__doc__") 1339), .none⟩] 2), #[]⟩) ::
  (nat_lit 794, ⟨(.type "type"), none, (.cls ⟨(.ofString "Proto"), [(.ref 58)], [(.ref 794), (.ref 58), (.type "object")], 793, (.ofString "Proto"), true, [], [], false, none, false⟩), #[(some (.ref 757)), none, (some (.str (.ofString "Proto") 1280)), (some (.str (.ofString "Proto") 1288)), (some (.builtin "object.__new__")), (some (.bool true))]⟩) ::
  (nat_lit 809, ⟨(.type "code"), none, (.fields #[(.str (.ofString "__init__") 1359), (.str (.ofString "UpVal.__init__") 1360), (.str (.ofString "/claim/cut.py") 1361), (.int 624 0), (.int 3 0), (.int 0 0), (.int 0 0), (.int 3 0), (.ref 804), (.bool true), (.int 181 0), (.ref 805), .none, (.ref 806), (.ref 807), (.ref 808), (.int 1365 0), (.int 624 0), (.str (.ofString "/claim/cut.py") 1366)]), #[]⟩) ::
  (nat_lit 810, ⟨(.type "function"), none, (.func ⟨(.ofString "__init__"), (.ofString "UpVal.__init__"), (mP 61 1), (.stmts (mB 61 1)), (mS 61 1), 3, [], .none, .none, .none, (.str (.ofString "lua.upvals") 1342), none, (.ref 809), .none, 0⟩), #[]⟩) ::
  (nat_lit 824, ⟨(.type "code"), none, (.fields #[(.str (.ofString "get") 1376), (.str (.ofString "UpVal.get") 1377), (.str (.ofString "/claim/cut.py") 1378), (.int 634 0), (.int 1 0), (.int 0 0), (.int 0 0), (.int 3 0), (.ref 819), (.bool true), (.int 181 0), (.ref 820), .none, (.ref 821), (.ref 822), (.ref 823), (.int 1380 0), (.int 634 0), (.str (.ofString "/claim/cut.py") 1381)]), #[]⟩) ::
  (nat_lit 825, ⟨(.type "function"), none, (.func ⟨(.ofString "get"), (.ofString "UpVal.get"), (mP 61 3), (.stmts (mB 61 3)), (mS 61 3), 3, [], .none, .none, .none, (.str (.ofString "lua.upvals") 1342), none, (.ref 824), .none, 0⟩), #[]⟩) ::
  (nat_lit 831, ⟨(.type "code"), none, (.fields #[(.str (.ofString "set") 1383), (.str (.ofString "UpVal.set") 1384), (.str (.ofString "/claim/cut.py") 1385), (.int 639 0), (.int 2 0), (.int 0 0), (.int 0 0), (.int 3 0), (.ref 826), (.bool true), (.int 181 0), (.ref 827), .none, (.ref 828), (.ref 829), (.ref 830), (.int 1388 0), (.int 639 0), (.str (.ofString "/claim/cut.py") 1389)]), #[]⟩) ::
  (nat_lit 832, ⟨(.type "function"), none, (.func ⟨(.ofString "set"), (.ofString "UpVal.set"), (mP 61 4), (.stmts (mB 61 4)), (mS 61 4), 3, [], .none, .none, .none, (.str (.ofString "lua.upvals") 1342), none, (.ref 831), .none, 0⟩), #[]⟩) ::
  (nat_lit 838, ⟨(.type "code"), none, (.fields #[(.str (.ofString "close") 1391), (.str (.ofString "UpVal.close") 1392), (.str (.ofString "/claim/cut.py") 1393), (.int 645 0), (.int 1 0), (.int 0 0), (.int 0 0), (.int 3 0), (.ref 833), (.bool true), (.int 181 0), (.ref 834), .none, (.ref 835), (.ref 836), (.ref 837), (.int 1395 0), (.int 645 0), (.str (.ofString "/claim/cut.py") 1396)]), #[]⟩) ::
  (nat_lit 839, ⟨(.type "function"), none, (.func ⟨(.ofString "close"), (.ofString "UpVal.close"), (mP 61 5), (.stmts (mB 61 5)), (mS 61 5), 3, [], .none, .none, .none, (.str (.ofString "lua.upvals") 1342), none, (.ref 838), .none, 0⟩), #[]⟩) ::
  (nat_lit 841, ⟨(.type "dict"), none, (.dict #[⟨(PyData.keyHash P (.ofString "__module__")), (.str (.ofString "__module__") 1353), (.str (.ofString "lua.upvals") 1342)⟩, ⟨(PyData.keyHash P (.ofString "__firstlineno__")), (.str (.ofString "__firstlineno__") 1357), (.int 621 1356)⟩, ⟨(PyData.keyHash P (.ofString "kind")), (.str (.ofString "kind") 1358), (.int 10 219)⟩, ⟨(PyData.keyHash P (.ofString "__init__")), (.str (.ofString "__init__") 1367), (.ref 810)⟩, ⟨(PyData.keyHash P (.ofString "is_open")), (.str (.ofString "is_open") 1375), (.ref 818)⟩, ⟨(PyData.keyHash P (.ofString "get")), (.str (.ofString "get") 1382), (.ref 825)⟩, ⟨(PyData.keyHash P (.ofString "set")), (.str (.ofString "set") 1390), (.ref 832)⟩, ⟨(PyData.keyHash P (.ofString "close")), (.str (.ofString "close") 1397), (.ref 839)⟩, ⟨(PyData.keyHash P (.ofString "__static_attributes__")), (.str (.ofString "__static_attributes__") 1401), (.ref 840)⟩, ⟨(PyData.keyHash P (.ofString "__doc__")), (.str (.ofString "__doc__") 1402), .none⟩] 2), #[]⟩) ::
  (nat_lit 842, ⟨(.type "type"), none, (.cls ⟨(.ofString "UpVal"), [(.ref 58)], [(.ref 842), (.ref 58), (.type "object")], 841, (.ofString "UpVal"), true, [], [], false, none, false⟩), #[(some (.ref 797)), none, (some (.str (.ofString "UpVal") 1346)), (some (.str (.ofString "UpVal") 1354)), (some (.builtin "object.__new__")), (some (.bool true))]⟩) ::
  (nat_lit 857, ⟨(.type "code"), none, (.fields #[(.str (.ofString "__init__") 1417), (.str (.ofString "Ground.__init__") 1418), (.str (.ofString "/claim/cut.py") 1419), (.int 652 0), (.int 2 0), (.int 0 0), (.int 0 0), (.int 3 0), (.ref 852), (.bool true), (.int 181 0), (.ref 853), .none, (.ref 854), (.ref 855), (.ref 856), (.int 1422 0), (.int 652 0), (.str (.ofString "/claim/cut.py") 1423)]), #[]⟩) ::
  (nat_lit 858, ⟨(.type "function"), none, (.func ⟨(.ofString "__init__"), (.ofString "Ground.__init__"), (mP 62 0), (.stmts (mB 62 0)), (mS 62 0), 3, [], .none, .none, .none, (.str (.ofString "lua.upvals") 1342), none, (.ref 857), .none, 0⟩), #[]⟩) ::
  (nat_lit 860, ⟨(.type "dict"), none, (.dict #[⟨(PyData.keyHash P (.ofString "__module__")), (.str (.ofString "__module__") 1412), (.str (.ofString "lua.upvals") 1342)⟩, ⟨(PyData.keyHash P (.ofString "__firstlineno__")), (.str (.ofString "__firstlineno__") 1416), (.int 650 1415)⟩, ⟨(PyData.keyHash P (.ofString "__init__")), (.str (.ofString "__init__") 1424), (.ref 858)⟩, ⟨(PyData.keyHash P (.ofString "__static_attributes__")), (.str (.ofString "__static_attributes__") 1427), (.ref 859)⟩, ⟨(PyData.keyHash P (.ofString "__dict__")), (.str (.ofString "__dict__") 1429), (.ref 862)⟩, ⟨(PyData.keyHash P (.ofString "__weakref__")), (.str (.ofString "__weakref__") 1431), (.ref 863)⟩, ⟨(PyData.keyHash P (.ofString "__doc__")), (.str (.ofString "__doc__") 1432), .none⟩] 4), #[]⟩) ::
  (nat_lit 861, ⟨(.type "type"), none, (.cls ⟨(.ofString "Ground"), [(.type "object")], [(.ref 861), (.type "object")], 860, (.ofString "Ground"), true, [], [], false, none, false⟩), #[none, none, (some (.str (.ofString "Ground") 1405)), (some (.str (.ofString "Ground") 1413)), (some (.builtin "object.__new__")), (some (.bool true))]⟩) ::
  (nat_lit 871, ⟨(.type "code"), none, (.fields #[(.str (.ofString "spot_of") 1435), (.str (.ofString "spot_of") 1436), (.str (.ofString "/claim/cut.py") 1437), (.int 655 0), (.int 2 0), (.int 0 0), (.int 0 0), (.int 3 0), (.ref 866), (.bool true), (.int 181 0), (.ref 867), .none, (.ref 868), (.ref 869), (.ref 870), (.int 1441 0), (.int 655 0), (.str (.ofString "/claim/cut.py") 1442)]), #[]⟩) ::
  (nat_lit 872, ⟨(.type "function"), none, (.func ⟨(.ofString "spot_of"), (.ofString "spot_of"), (tP 63), (.stmts (tB 63)), (tS 63), 3, [], .none, .none, .none, (.str (.ofString "lua.upvals") 1342), none, (.ref 871), .none, 0⟩), #[]⟩) ::
  (nat_lit 878, ⟨(.type "code"), none, (.fields #[(.str (.ofString "open_at") 1444), (.str (.ofString "open_at") 1445), (.str (.ofString "/claim/cut.py") 1446), (.int 660 0), (.int 2 0), (.int 0 0), (.int 0 0), (.int 3 0), (.ref 873), (.bool true), (.int 181 0), (.ref 874), .none, (.ref 875), (.ref 876), (.ref 877), (.int 1450 0), (.int 660 0), (.str (.ofString "/claim/cut.py") 1451)]), #[]⟩) ::
  (nat_lit 879, ⟨(.type "function"), none, (.func ⟨(.ofString "open_at"), (.ofString "open_at"), (tP 64), (.stmts (tB 64)), (tS 64), 3, [], .none, .none, .none, (.str (.ofString "lua.upvals") 1342), none, (.ref 878), .none, 0⟩), #[]⟩) ::
  (nat_lit 885, ⟨(.type "code"), none, (.fields #[(.str (.ofString "put_open") 1453), (.str (.ofString "put_open") 1454), (.str (.ofString "/claim/cut.py") 1455), (.int 665 0), (.int 2 0), (.int 0 0), (.int 0 0), (.int 3 0), (.ref 880), (.bool true), (.int 181 0), (.ref 881), .none, (.ref 882), (.ref 883), (.ref 884), (.int 1458 0), (.int 665 0), (.str (.ofString "/claim/cut.py") 1459)]), #[]⟩) ::
  (nat_lit 886, ⟨(.type "function"), none, (.func ⟨(.ofString "put_open"), (.ofString "put_open"), (tP 65), (.stmts (tB 65)), (tS 65), 3, [], .none, .none, .none, (.str (.ofString "lua.upvals") 1342), none, (.ref 885), .none, 0⟩), #[]⟩) ::
  (nat_lit 892, ⟨(.type "code"), none, (.fields #[(.str (.ofString "find_plain") 1461), (.str (.ofString "find_plain") 1462), (.str (.ofString "/claim/cut.py") 1463), (.int 667 0), (.int 2 0), (.int 0 0), (.int 0 0), (.int 3 0), (.ref 887), (.bool true), (.int 181 0), (.ref 888), .none, (.ref 889), (.ref 890), (.ref 891), (.int 1467 0), (.int 667 0), (.str (.ofString "/claim/cut.py") 1468)]), #[]⟩) ::
  (nat_lit 893, ⟨(.type "function"), none, (.func ⟨(.ofString "find_plain"), (.ofString "find_plain"), (tP 66), (.stmts (tB 66)), (tS 66), 3, [], .none, .none, .none, (.str (.ofString "lua.upvals") 1342), none, (.ref 892), .none, 0⟩), #[]⟩) ::
  (nat_lit 899, ⟨(.type "code"), none, (.fields #[(.str (.ofString "take_closed") 1470), (.str (.ofString "take_closed") 1471), (.str (.ofString "/claim/cut.py") 1472), (.int 673 0), (.int 2 0), (.int 0 0), (.int 0 0), (.int 3 0), (.ref 894), (.bool true), (.int 181 0), (.ref 895), .none, (.ref 896), (.ref 897), (.ref 898), (.int 1477 0), (.int 673 0), (.str (.ofString "/claim/cut.py") 1478)]), #[]⟩) ::
  (nat_lit 900, ⟨(.type "function"), none, (.func ⟨(.ofString "take_closed"), (.ofString "take_closed"), (tP 67), (.stmts (tB 67)), (tS 67), 3, [], .none, .none, .none, (.str (.ofString "lua.upvals") 1342), none, (.ref 899), .none, 0⟩), #[]⟩) ::
  (nat_lit 904, ⟨(.type "code"), none, (.fields #[(.str (.ofString "_law_numbers") 1482), (.str (.ofString "_law_numbers") 1483), (.str (.ofString "/claim/cut.py") 1484), (.int 681 0), (.int 1 0), (.int 0 0), (.int 0 0), (.int 3 0), (.ref 901), (.bool true), (.int 181 0), (.ref 902), .none, .none, .none, (.ref 903), (.int 1485 0), (.int 681 0), (.str (.ofString "/claim/cut.py") 1486)]), #[]⟩) ::
  (nat_lit 905, ⟨(.type "function"), none, (.func ⟨(.ofString "_law_numbers"), (.ofString "_law_numbers"), (tP 69), (.stmts (tB 69)), (tS 69), 3, [], .none, .none, .none, (.str (.ofString "law_nt0650_01") 1480), none, (.ref 904), .none, 0⟩), #[]⟩) ::
  (nat_lit 909, ⟨(.type "code"), none, (.fields #[(.str (.ofString "_law_deed") 1488), (.str (.ofString "_law_deed") 1489), (.str (.ofString "/claim/cut.py") 1490), (.int 688 0), (.int 5 0), (.int 0 0), (.int 0 0), (.int 3 0), (.ref 906), (.bool true), (.int 181 0), (.ref 907), .none, .none, .none, (.ref 908), (.int 1491 0), (.int 688 0), (.str (.ofString "/claim/cut.py") 1492)]), #[]⟩) ::
  (nat_lit 910, ⟨(.type "function"), none, (.func ⟨(.ofString "_law_deed"), (.ofString "_law_deed"), (tP 70), (.stmts (tB 70)), (tS 70), 3, [], .none, .none, .none, (.str (.ofString "law_nt0650_01") 1480), none, (.ref 909), .none, 0⟩), #[]⟩) ::
  (nat_lit 914, ⟨(.type "code"), none, (.fields #[(.str (.ofString "_law_stands") 1494), (.str (.ofString "_law_stands") 1495), (.str (.ofString "/claim/cut.py") 1496), (.int 727 0), (.int 4 0), (.int 0 0), (.int 0 0), (.int 3 0), (.ref 911), (.bool true), (.int 181 0), (.ref 912), .none, .none, .none, (.ref 913), (.int 1497 0), (.int 727 0), (.str (.ofString "/claim/cut.py") 1498)]), #[]⟩) ::
  (nat_lit 915, ⟨(.type "function"), none, (.func ⟨(.ofString "_law_stands"), (.ofString "_law_stands"), (tP 71), (.stmts (tB 71)), (tS 71), 3, [], .none, .none, .none, (.str (.ofString "law_nt0650_01") 1480), none, (.ref 914), .none, 0⟩), #[]⟩) ::
  (nat_lit 919, ⟨(.type "code"), none, (.fields #[(.str (.ofString "_law_call_right") 1500), (.str (.ofString "_law_call_right") 1501), (.str (.ofString "/claim/cut.py") 1502), (.int 738 0), (.int 1 0), (.int 0 0), (.int 0 0), (.int 3 0), (.ref 916), (.bool true), (.int 181 0), (.ref 917), .none, .none, .none, (.ref 918), (.int 1503 0), (.int 738 0), (.str (.ofString "/claim/cut.py") 1504)]), #[]⟩) ::
  (nat_lit 920, ⟨(.type "function"), none, (.func ⟨(.ofString "_law_call_right"), (.ofString "_law_call_right"), (tP 72), (.stmts (tB 72)), (tS 72), 3, [], .none, .none, .none, (.str (.ofString "law_nt0650_01") 1480), none, (.ref 919), .none, 0⟩), #[]⟩) ::
  (nat_lit 924, ⟨(.type "code"), none, (.fields #[(.str (.ofString "_law_function_right") 1506), (.str (.ofString "_law_function_right") 1507), (.str (.ofString "/claim/cut.py") 1508), (.int 762 0), (.int 1 0), (.int 0 0), (.int 0 0), (.int 3 0), (.ref 921), (.bool true), (.int 181 0), (.ref 922), .none, .none, .none, (.ref 923), (.int 1509 0), (.int 762 0), (.str (.ofString "/claim/cut.py") 1510)]), #[]⟩) ::
  (nat_lit 925, ⟨(.type "function"), none, (.func ⟨(.ofString "_law_function_right"), (.ofString "_law_function_right"), (tP 73), (.stmts (tB 73)), (tS 73), 3, [], .none, .none, .none, (.str (.ofString "law_nt0650_01") 1480), none, (.ref 924), .none, 0⟩), #[]⟩) ::
  (nat_lit 931, ⟨(.type "code"), none, (.fields #[(.str (.ofString "_law_hex") 1512), (.str (.ofString "_law_hex") 1513), (.str (.ofString "/claim/cut.py") 1514), (.int 788 0), (.int 2 0), (.int 0 0), (.int 0 0), (.int 3 0), (.ref 926), (.bool true), (.int 181 0), (.ref 927), .none, (.ref 928), (.ref 929), (.ref 930), (.int 1518 0), (.int 788 0), (.str (.ofString "/claim/cut.py") 1519)]), #[]⟩) ::
  (nat_lit 932, ⟨(.type "function"), none, (.func ⟨(.ofString "_law_hex"), (.ofString "_law_hex"), (tP 74), (.stmts (tB 74)), (tS 74), 3, [], .none, .none, .none, (.str (.ofString "law_nt0650_01") 1480), none, (.ref 931), .none, 0⟩), #[]⟩) ::
  (nat_lit 938, ⟨(.type "code"), none, (.fields #[(.str (.ofString "_law_objects_right") 1521), (.str (.ofString "_law_objects_right") 1522), (.str (.ofString "/claim/cut.py") 1523), (.int 794 0), (.int 1 0), (.int 0 0), (.int 0 0), (.int 3 0), (.ref 933), (.bool true), (.int 181 0), (.ref 934), .none, (.ref 935), (.ref 936), (.ref 937), (.int 1534 0), (.int 794 0), (.str (.ofString "/claim/cut.py") 1535)]), #[]⟩) ::
  (nat_lit 939, ⟨(.type "function"), none, (.func ⟨(.ofString "_law_objects_right"), (.ofString "_law_objects_right"), (tP 75), (.stmts (tB 75)), (tS 75), 3, [], .none, .none, .none, (.str (.ofString "law_nt0650_01") 1480), none, (.ref 938), .none, 0⟩), #[]⟩) ::
  (nat_lit 945, ⟨(.type "code"), none, (.fields #[(.str (.ofString "law") 1537), (.str (.ofString "law") 1538), (.str (.ofString "/claim/cut.py") 1539), (.int 816 0), (.int 1 0), (.int 0 0), (.int 0 0), (.int 3 0), (.ref 940), (.bool true), (.int 181 0), (.ref 941), .none, (.ref 942), (.ref 943), (.ref 944), (.int 1547 0), (.int 816 0), (.str (.ofString "/claim/cut.py") 1548)]), #[]⟩) ::
  (nat_lit 946, ⟨(.type "function"), none, (.func ⟨(.ofString "law"), (.ofString "law"), (tP 76), (.stmts (tB 76)), (tS 76), 3, [], .none, .none, .none, (.str (.ofString "law_nt0650_01") 1480), none, (.ref 945), .none, 0⟩), #[]⟩) :: []
noncomputable def kAs : List Addr := nat_lit 2 :: nat_lit 3 :: nat_lit 54 :: nat_lit 55 :: nat_lit 57 :: nat_lit 58 :: nat_lit 75 :: nat_lit 76 :: nat_lit 78 :: nat_lit 79 :: nat_lit 210 :: nat_lit 216 :: nat_lit 217 :: nat_lit 407 :: nat_lit 408 :: nat_lit 423 :: nat_lit 424 :: nat_lit 430 :: nat_lit 431 :: nat_lit 432 :: nat_lit 438 :: nat_lit 439 :: nat_lit 445 :: nat_lit 446 :: nat_lit 452 :: nat_lit 453 :: nat_lit 455 :: nat_lit 456 :: nat_lit 471 :: nat_lit 472 :: nat_lit 478 :: nat_lit 479 :: nat_lit 480 :: nat_lit 486 :: nat_lit 487 :: nat_lit 493 :: nat_lit 494 :: nat_lit 500 :: nat_lit 501 :: nat_lit 503 :: nat_lit 504 :: nat_lit 519 :: nat_lit 520 :: nat_lit 522 :: nat_lit 523 :: nat_lit 538 :: nat_lit 539 :: nat_lit 545 :: nat_lit 546 :: nat_lit 552 :: nat_lit 553 :: nat_lit 555 :: nat_lit 556 :: nat_lit 573 :: nat_lit 574 :: nat_lit 580 :: nat_lit 581 :: nat_lit 582 :: nat_lit 588 :: nat_lit 589 :: nat_lit 590 :: nat_lit 596 :: nat_lit 597 :: nat_lit 603 :: nat_lit 604 :: nat_lit 610 :: nat_lit 611 :: nat_lit 617 :: nat_lit 618 :: nat_lit 624 :: nat_lit 625 :: nat_lit 631 :: nat_lit 632 :: nat_lit 638 :: nat_lit 639 :: nat_lit 645 :: nat_lit 646 :: nat_lit 652 :: nat_lit 653 :: nat_lit 659 :: nat_lit 660 :: nat_lit 666 :: nat_lit 667 :: nat_lit 673 :: nat_lit 674 :: nat_lit 676 :: nat_lit 677 :: nat_lit 692 :: nat_lit 693 :: nat_lit 699 :: nat_lit 700 :: nat_lit 702 :: nat_lit 703 :: nat_lit 713 :: nat_lit 714 :: nat_lit 720 :: nat_lit 721 :: nat_lit 727 :: nat_lit 728 :: nat_lit 734 :: nat_lit 735 :: nat_lit 741 :: nat_lit 742 :: nat_lit 748 :: nat_lit 749 :: nat_lit 755 :: nat_lit 756 :: nat_lit 769 :: nat_lit 770 :: nat_lit 793 :: nat_lit 794 :: nat_lit 809 :: nat_lit 810 :: nat_lit 824 :: nat_lit 825 :: nat_lit 831 :: nat_lit 832 :: nat_lit 838 :: nat_lit 839 :: nat_lit 841 :: nat_lit 842 :: nat_lit 857 :: nat_lit 858 :: nat_lit 860 :: nat_lit 861 :: nat_lit 871 :: nat_lit 872 :: nat_lit 878 :: nat_lit 879 :: nat_lit 885 :: nat_lit 886 :: nat_lit 892 :: nat_lit 893 :: nat_lit 899 :: nat_lit 900 :: nat_lit 904 :: nat_lit 905 :: nat_lit 909 :: nat_lit 910 :: nat_lit 914 :: nat_lit 915 :: nat_lit 919 :: nat_lit 920 :: nat_lit 924 :: nat_lit 925 :: nat_lit 931 :: nat_lit 932 :: nat_lit 938 :: nat_lit 939 :: nat_lit 945 :: nat_lit 946 :: []
noncomputable abbrev hd.view_39 : Program := vw
end NtMine

end
-- HdTop
section
open PySem PySem.W PySem.Calls PyProof.Rows NtHd
set_option Elab.async false
namespace NtMine
set_option maxRecDepth 100000
set_option maxHeartbeats 0
theorem kAs_eq (P : Params) : kAs = (hd.heap_39 P).map (·.1) := by kernel_rfl
noncomputable abbrev hk : Hook := kHook hd.heap_39 kAs kAs_eq
theorem run_all (w : World) (os : OsState) : (runT (stF pw w) (okF 11 (some (.ref 6))) 8000 (S0 w os) (topStub pw)).map (fun s =>
      (staticsOk (importedModules pw.main.body) (boot_heap w.params) s.abs.heap && namesBound pw s.abs.heap && gensDone s.abs && laidKept (boot_heap w.params) s.abs.heap, PySem.W.Fast.tw4187177175401517315 hd.view_39 loose (importedModules pw.main.body) Xt true s.abs,
        Hook.obs hk s.abs)) = some (true, openGood hd.view_39 loose, Hook.val hk w) := by kernel_rfl
theorem left_all : LeftO pw hd.view_39 loose Xt (Hook.obs hk) (Hook.val hk) 8000 := by
  refine left_of (H₀ := boot_heap) (gs₀ := Array.mk []) (d₀ := boot_drawn) (k₀ := boot_toks) (m₀ := 11) (ann := some (.ref 6)) (S₀ := S0) (boot_open ?e ?n ?f) (fun w => ?sz) (fun w os => ?st) (fun w os => ?run)
  case e => kernel_rfl
  case n => rfl
  case f => intro s; kernel_rfl
  case sz => kernel_rfl
  case st =>
    show SharedT.abs _ = _
    unfold S0 SharedT.abs
    rw [NtHd.boot_abs]
  case run =>
    rw [stF_eq, okF_eq, seenF_eq]
    exact run_all w os
end NtMine

end
-- HdSaid
section
open PySem PySem.W PySem.Calls PyProof.Rows NtHd
set_option Elab.async false
namespace NtMine
set_option maxRecDepth 100000
set_option maxHeartbeats 0
theorem said_fast : PySem.W.Fast.tw9446332074065402090 PySem.Challenge.rw_nt0650_01 = true := by kernel_rfl
theorem said_all : OpenLaw.wellSaid PySem.Challenge.rw_nt0650_01 = true := by
  rw [PySem.W.Fast.te9446332074065402090]
  exact said_fast
end NtMine

end
-- NtBase
section
open PySem PySem.W PyProof.Rows
set_option Elab.async false
namespace NtMine
noncomputable abbrev Led := List (Addr × Obj)
/-- what a call says: at any caller's place, from the ledger `news`, it ends with a value and a ledger as `Post` tells -/
noncomputable def Says (w : World) (loose : List Str) (mean : ExcName → Option Value) (mg mb : Str → Option Value) (f : Addr) (vs : List Value) (kd ku : Nat) (news : Led) (Post : Value → Led → Prop) : Prop :=
  ∀ (dp un : Nat) (gd : Option (List Code)) (cn : Str) (cs : Scope) (a : Addr) (ccd : Value) (cl : List (Str × Addr)) (outer : List Env) (A₀ : Around) (base h₀ : Heap) (L : Addr) (m : Str → Option Value) (s : Shared) (Q E : Value → Shared → Prop),
    Below A₀ base outer h₀ → Fr h₀ L s.heap m → (hd.heap_39 w.params).In h₀ → News h₀ L s.heap news → Top hd.view_39 loose mean mg mb h₀ → cs.kind = .function → dp + kd < recursionLimit → un + ku < cLine →
    (∀ (r : Value) (news' : Led) (h' : Heap) (tk' : Nat), Fr h₀ L h' m → News h₀ L h' news' → Post r news' → Q r { s with heap := h', toks := tk' }) →
    wpAny (model PySem.Challenge.rw_nt0650_01.row.prog w) (ktrTop dp un gd cn cs L a ccd cl outer) (call (.ref f) vs) Q E s
noncomputable abbrev ent (P : Params) (n : String) (t : Tok) (v : Value) : DictEntry := ⟨PyData.keyHash P (Str.ofString n), .str (Str.ofString n) t, v⟩
/-- a thread's dict -/
noncomputable abbrev thrD (P : Params) (tk : Nat → Tok) (stk : Addr) (top : Int) (tt : Tok) (frs up : Addr) : Obj :=
  dictOf [ent P "number" (tk 0) (.int 0 (tk 1)), ent P "mark" (tk 2) (.int 0 (tk 3)), ent P "size" (tk 4) (.int 20 (tk 5)), ent P "glob" (tk 6) .none, ent P "state" (tk 7) .none, ent P "stack" (tk 8) (.ref stk),
    ent P "top" (tk 9) (.int top tt), ent P "frames" (tk 10) (.ref frs), ent P "open_upvals" (tk 11) (.ref up), ent P "status" (tk 12) (.int 0 (tk 13)), ent P "globals" (tk 14) .none, ent P "ccalls" (tk 15) (.int 0 (tk 16)),
    ent P "base_ccalls" (tk 17) (.int 0 (tk 18)), ent P "handling" (tk 19) (.int 0 (tk 20)), ent P "resumer" (tk 21) .none, ent P "yielded" (tk 22) (.int 0 (tk 23)), ent P "error" (tk 24) .none] 17
/-- a thread on the ledger: the object, its dict, its stack's list -/
noncomputable abbrev thrL (P : Params) (tk : Nat → Tok) (x dx stk : Addr) (top : Int) (tt : Tok) (frs up : Addr) (vs : List Value) (n : Nat) (rest : Led) : Led :=
  (x, instObj 677 dx) :: (dx, thrD P tk stk top tt frs up) :: (stk, listOf vs.toArray n) :: rest
end NtMine

end
-- NtList
section
open PySem PySem.W PySem.Calls PyProof.Rows
set_option Elab.async false
namespace NtMine
set_option maxRecDepth 100000
section
variable {prog : Program} {w : World} {A : Around} {E : Value → Shared → Prop} {s : Shared} {h₀ : Heap} {L D b : Addr} {m : Str → Option Value} {news news' : Led} {vs ws : List Value} {n n2 : Nat}

theorem room_of {k : Nat} (h : k ≤ 100000) : k ≤ sizeLine := by rw [sizeLine_eq]; omega

theorem nt_len {Q : Value → Shared → Prop} (N : News h₀ L s.heap news) (hm : (D, listOf vs.toArray n) ∈ news) (hb : vs.length ≤ 100000)
    (h : Q (.int vs.length (s.toks + 1)) { s with toks := s.toks + 1 + 1 }) : wpAny (model prog w) A (call (.builtin "len") [.ref D]) Q E s :=
  call_len_list (items := vs.toArray) ⟨_, (N _ hm).1, rfl, n, rfl⟩ (by rw [List.size_toArray]; omega) (by rw [List.size_toArray]; exact h)


theorem nt_item {value slice : Expr} {k : Int} {u : Tok} {Q : Value → Shared → Prop} (N : News h₀ L s.heap news) (hm : (D, listOf vs.toArray n) ∈ news) (hb : vs.length ≤ 100000) (h0 : 0 ≤ k) (h1 : k < vs.length)
    (h : ∀ v, vs[k.toNat]? = some v → Q v s)
    (hs : subscripted slice false (.ref D) (.int k u) = operate [.ref D, .int k u] (getItem (.ref D) (.int k u)) := by with_unfolding_all rfl) (hg : ∀ r, letTemporaryGo value (.ref D) r = pure () := by intro _; with_unfolding_all rfl) :
    wpAny (model prog w) A (subscriptTail value slice (.ref D) (.int k u)) Q E s := by
  have hk : k.toNat < vs.length := by omega
  exact item_listL ⟨_, (N _ hm).1, rfl, n, rfl⟩ h0 (by omega) (List.getElem?_eq_getElem hk) (h _ (List.getElem?_eq_getElem hk)) hs hg

theorem nt_itemT {value slice : Expr} {k : Int} {u : Tok} {v : Value} {Q : Value → Shared → Prop} (N : News h₀ L s.heap news) (hm : (D, ({ cls := .type "tuple", data := .seq vs.toArray n } : Obj)) ∈ news) (h0 : 0 ≤ k) (h1 : k < 1000) (hv : vs[k.toNat]? = some v)
    (h : Q v s) (hs : subscripted slice false (.ref D) (.int k u) = operate [.ref D, .int k u] (getItem (.ref D) (.int k u)) := by with_unfolding_all rfl) :
    wpAny (model prog w) A (subscriptTail value slice (.ref D) (.int k u)) Q E s := by
  have hk : k.toNat < vs.length := (List.getElem?_eq_some_iff.mp hv).1
  refine item_tupleT ⟨_, (N _ hm).1, rfl, n, rfl⟩ (by omega) (by omega) (j := k.toNat) ?_ hv h hs
  unfold seqIndex?
  simp
  omega

theorem nt_set {k : Int} {t : Tok} {v : Value} {Q : Unit → Shared → Prop} (F : Fr h₀ L s.heap m) (N : News h₀ L s.heap news) (U : Upd D (listOf vs.toArray n) (listOf (vs.set k.toNat v).toArray n) news news') (hb : vs.length ≤ 100000) (h0 : 0 ≤ k) (h1 : k < vs.length)
    (h : ∀ h', Fr h₀ L h' m → News h₀ L h' news' → Q () { s with heap := h' }) : wpAny (model prog w) A (setItem (.ref D) (.int k t) v) Q E s := by
  obtain ⟨pre, post, rfl, rfl, a, b⟩ := U.split
  have z := N (D, listOf vs.toArray n) (List.mem_append.mpr (.inr (.head _)))
  have hs : vs.toArray.size = vs.length := List.size_toArray ..
  refine ki_setAt z.1 h0 (by omega) (by omega) (h _ (F.change (Heap.SameBut.update ..) z.2.1 z.2.2) (ki_turn _ N a b ?_ ?_))
  · show vs.toArray.setIfInBounds k.toNat v = (vs.set k.toNat v).toArray
    apply Array.toList_inj.mp
    simp
  · simp

theorem nt_append {v : Value} {Q : Value → Shared → Prop} (F : Fr h₀ L s.heap m) (N : News h₀ L s.heap news) (U : Upd D (listOf vs.toArray n) (listOf (vs ++ [v]).toArray (n + 1)) news news') (hb : vs.length ≤ 100000)
    (h : ∀ h', Fr h₀ L h' m → News h₀ L h' news' → Q .none { s with heap := h' }) : wpAny (model prog w) A (call (.builtin "list.append") [.ref D, v]) Q E s :=
  append_K F N (by rw [List.push_toArray]; exact U) h (by rw [List.size_toArray]; exact room_of hb)

theorem nt_mulN {x : Int} {u : Tok} {v : Value} {Q : Value → Shared → Prop} (F : Fr h₀ L s.heap m) (N : News h₀ L s.heap news) (hm : (D, listOf [v].toArray n) ∈ news) (hlo : -1000 ≤ x) (hhi : x ≤ 256)
    (h : ∀ B h', Fr h₀ L h' m → News h₀ L h' ((B, listOf (List.replicate x.toNat v).toArray 0) :: news) → (∀ p ∈ news, p.1 < B) → Q (.ref B) { s with heap := h' }) : wpAny (model prog w) A (binaryOp .Mult (.ref D) (.int x u)) Q E s :=
  KMa.mul F N (vs := [v]) ⟨_, (N _ hm).1, rfl, n, rfl⟩ (by omega) (by omega) (by simp; omega) (by
    generalize x.toNat = k
    induction k with
    | zero => rfl
    | succ k ih => rw [List.replicate_succ, List.replicate_succ, List.flatten_cons, ih]; rfl) h

theorem nt_extend {Q : Value → Shared → Prop} (F : Fr h₀ L s.heap m) (N : News h₀ L s.heap news) (hb : (b, listOf ws.toArray n2) ∈ news)
    (U : Upd D (listOf vs.toArray n) (listOf (vs ++ ws).toArray (if ws.isEmpty then n else n + 1)) news news') (h1 : vs.length ≤ 10000) (h2 : ws.length ≤ 10000)
    (h : ∀ h', Fr h₀ L h' m → News h₀ L h' news' → Q .none { s with heap := h' }) : wpAny (model prog w) A (call (.builtin "list.extend") [.ref D, .ref b]) Q E s := by
  have hd : ¬(!vs.toArray.isEmpty && Builtin.List.listTooLong (vs.toArray.size + ws.toArray.size)) = true := by
    rw [List.size_toArray, List.size_toArray]
    simp [Builtin.List.listTooLong, sizeLine]
    intro _
    omega
  have hz : vs.toArray.size + ws.toArray.size ≤ sizeLine + 1 := by rw [List.size_toArray, List.size_toArray, sizeLine_eq]; omega
  cases ws with
  | nil =>
    simp only [List.append_nil, List.isEmpty_nil, if_true] at U
    exact kxn_extend F N hb rfl U hd (by simpa using room_of (by omega)) hz h
  | cons w ws =>
    simp only [List.isEmpty_cons, Bool.false_eq_true, if_false] at U
    exact kl_extend F N hb (by simp) (by simp) U hd (by simpa using room_of (by omega)) hz h

theorem nt_pop {Q : Value → Shared → Prop} (F : Fr h₀ L s.heap m) (N : News h₀ L s.heap news) (U : Upd D (listOf vs.toArray n) (listOf vs.dropLast.toArray (n + 1)) news news') (hb : vs.length ≤ 100000) (hne : 0 < vs.length)
    (h : ∀ y h', vs[vs.length - 1]? = some y → Fr h₀ L h' m → News h₀ L h' news' → Q y { s with heap := h' }) : wpAny (model prog w) A (call (.builtin "list.pop") [.ref D]) Q E s := by
  have hne' : vs ≠ [] := List.ne_nil_of_length_pos hne
  have e := kpa_last (vs.getLast hne') vs.dropLast
  rw [List.dropLast_concat_getLast hne'] at e
  refine kl_pop F N (p := vs.dropLast) (y := vs.getLast hne') (by simpa using e) U (by simpa using room_of hb) fun h' F' N' => h _ h' ?_ F' N'
  rw [List.getLast_eq_getElem]
  exact List.getElem?_eq_getElem _

theorem nt_popAt {k : Int} {u : Tok} {Q : Value → Shared → Prop} (F : Fr h₀ L s.heap m) (N : News h₀ L s.heap news) (U : Upd D (listOf vs.toArray n) (listOf (vs.eraseIdx k.toNat).toArray (n + 1)) news news') (hb : vs.length ≤ 100000) (h0 : 0 ≤ k) (h1 : k < vs.length)
    (h : ∀ y h', vs[k.toNat]? = some y → Fr h₀ L h' m → News h₀ L h' news' → Q y { s with heap := h' }) : wpAny (model prog w) A (call (.builtin "list.pop") [.ref D, .int k u]) Q E s := by
  have hk : k.toNat < vs.length := by omega
  have cut : ∀ (l : List Value) (j : Nat) (hj : j < l.length), kl_cut l j = some (l.take j, l[j], l.drop (j + 1)) := by
    intro l
    induction l with
    | nil => intro j hj; exact absurd hj (Nat.not_lt_zero _)
    | cons x r ih =>
      intro j hj
      cases j with
      | zero => rfl
      | succ j => simp only [kl_cut, ih j (Nat.lt_of_succ_lt_succ hj)]; rfl
  have hi : seqIndex? k vs.toArray.size = some k.toNat := by
    unfold seqIndex?
    simp
    omega
  refine kl_popAt F N (k := k.toNat) (p := vs.take k.toNat) (q := vs.drop (k.toNat + 1)) (y := vs[k.toNat]) (by simp [Builtin.List.listFitsIndex]; omega) hi (by simpa using cut vs k.toNat hk) (by rw [← List.eraseIdx_eq_take_drop_succ]; exact U) (by simpa using room_of hb) fun h' F' N' => h _ h' (List.getElem?_eq_getElem hk) F' N'

theorem nt_insert {k : Int} {u : Tok} {y : Value} {Q : Value → Shared → Prop} (F : Fr h₀ L s.heap m) (N : News h₀ L s.heap news) (U : Upd D (listOf vs.toArray n) (listOf (vs.take k.toNat ++ y :: vs.drop k.toNat).toArray (n + 1)) news news') (hb : vs.length ≤ 100000) (h0 : 0 ≤ k) (h1 : k ≤ vs.length)
    (h : ∀ h', Fr h₀ L h' m → News h₀ L h' news' → Q .none { s with heap := h' }) : wpAny (model prog w) A (call (.builtin "list.insert") [.ref D, .int k u, y]) Q E s := by
  refine kl_insert F N (l := vs.take k.toNat ++ y :: vs.drop k.toNat) (by simp [Builtin.List.listFitsIndex]; omega) ?_ U (by simpa using room_of hb) h
  unfold kl_ins
  simp only [if_neg (show ¬ k < 0 by omega)]
  have : min k.toNat vs.length = k.toNat := by omega
  simp [this]
end
end NtMine

end
-- NtWalk
section
open PySem PySem.W PySem.Calls PyProof.Rows
set_option Elab.async false
namespace NtMine
-- named little tactics
theorem lines_1 (P : Params) : (PySem.Challenge.rw_nt0650_01, hd.heap_39 P).1 = PySem.Challenge.rw_nt0650_01 := by
  k_fill
  k_with "nt_fit0" => (first | with_reducible assumption | omega | fail "nt_fit0")
  rfl

theorem le_by {a n m : Nat} (h : a ≤ m) (hn : Nat.ble m n = true) : a ≤ n := Nat.le_trans h (Nat.le_of_ble_eq_true hn)
theorem int_lt_le {a b c : Int} (h : a < b) (k : b ≤ c) : a ≤ c := Int.le_trans (Int.le_of_lt h) k
theorem room1 {n b c N : Nat} (h : n + c < N) (k : Nat.ble b c = true) : n + b < N := Nat.lt_of_le_of_lt (Nat.add_le_add_left (Nat.le_of_ble_eq_true k) n) h
theorem room2 {n a b c N : Nat} (h : n + c < N) (k : Nat.ble (a + b) c = true) : n + a + b < N := by
  rw [Nat.add_assoc]
  exact room1 h k
theorem le_int60 {a : Nat} {z : Int} (h : a ≤ 60) (hz : (60 : Int) ≤ z) : (a : Int) ≤ z := Int.le_trans (Int.ofNat_le.mpr h) hz
theorem lines_2 (P : Params) : (PySem.Challenge.rw_nt0650_01, hd.heap_39 P).1 = PySem.Challenge.rw_nt0650_01 := by
  k_fill
  k_with "nt_fit" => (first | with_reducible assumption | exact le_by (m := 60) (by with_reducible assumption) rfl | exact le_by (m := 900) (by with_reducible assumption) rfl | exact Int.natCast_nonneg _ | exact Int.ofNat_le.mpr (by with_reducible assumption) | exact le_int60 (by with_reducible assumption) (by decide) | exact int_lt_le (by with_reducible assumption) (by decide) | (refine And.intro ?nfah2g1 ?nfbh2g1; (case nfah2g1 => k_extra "nt_fit"); (case nfbh2g1 => k_extra "nt_fit")) | omega | ((simp only [List.length_append, List.length_replicate, List.length_set, List.length_cons, List.length_nil, List.length_dropLast, List.length_eraseIdx, List.length_take, List.length_drop]); omega) | fail "nt_fit")
  k_with "nt_mem" => (first | with_reducible exact List.mem_cons_self | ((with_reducible refine' List.mem_cons_of_mem _ ?ntah3g1); (case ntah3g1 => k_extra "nt_mem")) | with_reducible assumption | fail "nt_mem")
  rfl

-- the walk's own lines
theorem lines_3 (P : Params) : (PySem.Challenge.rw_nt0650_01, hd.heap_39 P).1 = PySem.Challenge.rw_nt0650_01 := by
  k_fill
  k_with "call builtin:len" => ((k_here; (with_reducible show wpAny _ _ (call (Value.builtin "len") [Value.ref _]) _ _ _); k_dflt (refine' nt_len ?Nh4g1 ?mh4g1 ?bh4g1 ?_; (case Nh4g1 => k_asm); (case mh4g1 => k_extra "nt_mem"); (case bh4g1 => k_extra "nt_fit"); k_whole)))
  k_with "truthy ref" => ((k_here; (with_reducible show wpAny _ _ (truthy (Value.ref _)) _ _ _); k_dflt (refine' nt_truthy ?Nh5g1 ?mh5g1 ?bh5g1 ?_; (case Nh5g1 => k_asm); (case mh5g1 => k_extra "nt_mem"); (case bh5g1 => k_extra "nt_fit"); k_whole)))
  k_with "subscriptTail" => ((k_here; (with_reducible show wpAny _ _ (subscriptTail _ _ (Value.ref _) (Value.int _ _)) _ _ _); k_dflt (refine' nt_item ?k1h6g1 ?k2h6g1 ?k3h6g1 ?k4h6g1 ?k5h6g1 ?_ ?k7h6g1; (case k1h6g1 => k_asm); (case k2h6g1 => k_extra "nt_mem"); (case k4h6g1 => k_extra "nt_fit0"); (case k3h6g1 => k_extra "nt_fit"); (case k5h6g1 => k_extra "nt_fit"); (case k7h6g1 => with_unfolding_all rfl); k_whole); intro v' hv'))
  k_with "subscriptTail" => ((k_here; (with_reducible show wpAny _ _ (subscriptTail _ _ (Value.ref _) (Value.int _ _)) _ _ _); k_dflt (refine' nt_itemT ?k1h7g1 ?k2h7g1 ?k3h7g1 ?k4h7g1 ?k5h7g1 ?_ ?k7h7g1; (case k1h7g1 => k_asm); (case k2h7g1 => k_extra "nt_mem"); (case k3h7g1 => decide); (case k4h7g1 => decide); (case k5h7g1 => exact rfl); (case k7h7g1 => with_unfolding_all rfl); k_whole)))
  k_with "setItem ref int" => ((k_here; (with_reducible show wpAny _ _ (setItem (Value.ref _) (Value.int _ _) _) _ _ _); k_dflt (refine' nt_set ?k1h8g1 ?k2h8g1 ?k3h8g1 ?k4h8g1 ?k5h8g1 ?k6h8g1 ?_; (case k1h8g1 => k_asm); (case k2h8g1 => k_asm); (case k3h8g1 => k_upd); (case k4h8g1 => k_extra "nt_fit"); (case k5h8g1 => k_extra "nt_fit"); (case k6h8g1 => k_extra "nt_fit"); k_whole); intro h' F' N'; (try k_sweep)))
  k_with "call builtin:list.append" => ((k_here; (with_reducible show wpAny _ _ (call (Value.builtin _) [Value.ref _, _]) _ _ _); k_dflt (refine' nt_append ?k1h9g1 ?k2h9g1 ?k3h9g1 ?k4h9g1 ?_; (case k1h9g1 => k_asm); (case k2h9g1 => k_asm); (case k3h9g1 => k_upd); (case k4h9g1 => k_extra "nt_fit"); k_whole); intro h' F' N'; (try k_sweep)))
  k_with "binaryOp Mult ref int" => ((k_here; (with_reducible show wpAny _ _ (binaryOp Operator.Mult (Value.ref _) (Value.int _ _)) _ _ _); k_dflt (refine' nt_mulN ?Fh10g1 ?Nh10g1 ?lh10g1 ?loh10g1 ?hih10g1 ?_; (case Fh10g1 => k_asm); (case Nh10g1 => k_asm); (case lh10g1 => k_extra "nt_mem"); (case loh10g1 => k_extra "nt_fit"); (case hih10g1 => k_extra "nt_fit"); k_whole); intro D' h' F' N' l1; (try k_lt l1); (try k_sweep)))
  k_with "call builtin:list.extend" => ((k_here; (with_reducible show wpAny _ _ (call (Value.builtin _) [Value.ref _, Value.ref _]) _ _ _); k_dflt (refine' nt_extend ?k1h11g1 ?k2h11g1 ?k0h11g1 ?k3h11g1 ?k4h11g1 ?k5h11g1 ?_; (case k1h11g1 => k_asm); (case k2h11g1 => k_asm); (case k0h11g1 => k_extra "nt_mem"); (case k3h11g1 => k_upd); (case k4h11g1 => k_extra "nt_fit"); (case k5h11g1 => k_extra "nt_fit"); k_whole); intro h' F' N'; (try k_sweep)))
  k_with "call builtin:list.pop" => ((k_here; k_dflt (first | ((with_reducible show wpAny _ _ (call (Value.builtin _) [Value.ref _]) _ _ _); refine' nt_pop ?k1h12g1 ?k2h12g1 ?k3h12g1 ?k4h12g1 ?k5h12g1 ?_; (case k1h12g1 => k_asm); (case k2h12g1 => k_asm); (case k3h12g1 => k_upd); (case k4h12g1 => k_extra "nt_fit"); (case k5h12g1 => k_extra "nt_fit"); k_whole) | ((with_reducible show wpAny _ _ (call (Value.builtin _) [Value.ref _, Value.int _ _]) _ _ _); refine' nt_popAt ?k1h12g2 ?k2h12g2 ?k3h12g2 ?k4h12g2 ?k5h12g2 ?k6h12g2 ?_; (case k1h12g2 => k_asm); (case k2h12g2 => k_asm); (case k3h12g2 => k_upd); (case k4h12g2 => k_extra "nt_fit"); (case k5h12g2 => k_extra "nt_fit"); (case k6h12g2 => k_extra "nt_fit"); k_whole)); intro y' h' hy' F' N'; (try k_sweep)))
  k_with "call builtin:list.insert" => ((k_here; (with_reducible show wpAny _ _ (call (Value.builtin _) [Value.ref _, Value.int _ _, _]) _ _ _); k_dflt (refine' nt_insert ?k1h13g1 ?k2h13g1 ?k3h13g1 ?k4h13g1 ?k5h13g1 ?k6h13g1 ?_; (case k1h13g1 => k_asm); (case k2h13g1 => k_asm); (case k3h13g1 => k_upd); (case k4h13g1 => k_extra "nt_fit"); (case k5h13g1 => k_extra "nt_fit"); (case k6h13g1 => k_extra "nt_fit"); k_whole); intro h' F' N'; (try k_sweep)))
  k_with "subscriptTail Attribute" => ((k_here; (with_reducible show wpAny _ _ (subscriptTail (PySem.Expr.Attribute _ _ _) _ _ _) _ _ _); k_dflt (refine kba_turn (value' := PySem.Expr.Name (PySem.Str.ofString "_") ⟨0, 0, 0, 0⟩) (fun _ => rfl) ?_)))
  k_with "subscriptTail BinOp" => ((k_here; (with_reducible show wpAny _ _ (subscriptTail (PySem.Expr.BinOp _ _ _ _) _ _ _) _ _ _); k_dflt (refine kba_turn (value' := PySem.Expr.Name (PySem.Str.ofString "_") ⟨0, 0, 0, 0⟩) (fun _ => rfl) ?_)))
  rfl

end NtMine

end
-- NtRules
section
open PySem PySem.W PySem.Calls PyProof.Rows
set_option Elab.async false
namespace NtMine
/-- apart; hidden from omega, which would split it -/
noncomputable def NeA (a b : Addr) : Prop := a ≠ b
theorem NeA.out {a b : Addr} (h : NeA a b) : a ≠ b := h
theorem NeA.out' {a b : Addr} (h : NeA a b) : b ≠ a := Ne.symm h
theorem nt_sub {h₀ h : Heap} {L : Addr} {l l' : Led} (N : News h₀ L h l) (hs : ∀ p ∈ l', p ∈ l) : News h₀ L h l' := fun p hp => N p (hs p hp)
theorem nt_tl {r l : Led} {a : Addr × Obj} (h : ∀ p ∈ r, p ∈ l) : ∀ p ∈ r, p ∈ a :: l := fun p hp => .tail _ (h p hp)
inductive Pick (p : Addr × Obj) : Led → Led → Prop
  | head {r : Led} : Pick p (p :: r) r
  | tail {q : Addr × Obj} {r r' : Led} : Pick p r r' → Pick p (q :: r) (q :: r')
theorem Pick.mem {p : Addr × Obj} {l l' : Led} (h : Pick p l l') : p ∈ l := by
  induction h with
  | head => exact .head _
  | tail _ ih => exact .tail _ ih
theorem Pick.sub {p : Addr × Obj} {l l' : Led} (h : Pick p l l') : ∀ q ∈ l', q ∈ l := by
  induction h with
  | head => exact fun _ h => .tail _ h
  | tail _ ih =>
    intro q hq
    rcases List.mem_cons.mp hq with rfl | hq
    · exact .head _
    · exact .tail _ (ih q hq)
theorem nt_pick {h₀ h : Heap} {L : Addr} {l l₁ : Led} {p₁ : Addr × Obj} (N : News h₀ L h l) (P1 : Pick p₁ l l₁) : News h₀ L h (p₁ :: l₁) := nt_sub N fun p hp => by
  rcases List.mem_cons.mp hp with rfl | hp
  · exact P1.mem
  · exact P1.sub p hp
theorem nt_pick3 {h₀ h : Heap} {L : Addr} {l l₁ l₂ l₃ : Led} {p₁ p₂ p₃ : Addr × Obj} (N : News h₀ L h l) (P1 : Pick p₁ l l₁) (P2 : Pick p₂ l₁ l₂) (P3 : Pick p₃ l₂ l₃) : News h₀ L h (p₁ :: p₂ :: p₃ :: l₃) := nt_sub N fun p hp => by
  rcases List.mem_cons.mp hp with rfl | hp
  · exact P1.mem
  · rcases List.mem_cons.mp hp with rfl | hp
    · exact P1.sub _ P2.mem
    · rcases List.mem_cons.mp hp with rfl | hp
      · exact P1.sub _ (P2.sub _ P3.mem)
      · exact P1.sub _ (P2.sub _ (P3.sub _ hp))
theorem nt_pick4 {h₀ h : Heap} {L : Addr} {l l₁ l₂ l₃ l₄ : Led} {p₁ p₂ p₃ p₄ : Addr × Obj} (N : News h₀ L h l) (P1 : Pick p₁ l l₁) (P2 : Pick p₂ l₁ l₂) (P3 : Pick p₃ l₂ l₃) (P4 : Pick p₄ l₃ l₄) : News h₀ L h (p₁ :: p₂ :: p₃ :: p₄ :: l₄) := nt_sub (nt_pick3 N P1 P2 P3) fun p hp => by
  rcases List.mem_cons.mp hp with rfl | hp
  · exact .head _
  · rcases List.mem_cons.mp hp with rfl | hp
    · exact .tail _ (.head _)
    · rcases List.mem_cons.mp hp with rfl | hp
      · exact .tail _ (.tail _ (.head _))
      · exact .tail _ (.tail _ (.tail _ ((nt_pick (h₀ := h₀) (h := h) (L := L) (l := l₃) (fun q hq => N q (P1.sub _ (P2.sub _ (P3.sub _ hq)))) P4 |> fun _ => by
          rcases List.mem_cons.mp hp with rfl | hp
          · exact P4.mem
          · exact P4.sub _ hp))))
theorem off_cons {a : Addr} {o : Obj} {r : Led} {l : List Addr} (h : a ∉ l) (k : OwnOff r l) : OwnOff ((a, o) :: r) l := fun p hp b hb => by
  rcases List.mem_cons.mp hp with rfl | hp
  · intro e
    have e' : a = b := e
    exact h (e' ▸ hb)
  · exact k p hp b hb
theorem off_sub {r : Led} {l l' : List Addr} (k : OwnOff r l) (h : ∀ b ∈ l', b ∈ l) : OwnOff r l' := fun p hp b hb => k p hp b (h b hb)
theorem off_lt {d : Addr} {r : Led} (k : AllLt d r) : OwnOff r [d] := fun p hp b hb e => by
  rw [List.mem_singleton.mp hb] at e
  exact Nat.lt_irrefl _ (e ▸ ktn_ltOf k p hp)
theorem off_two {r : Led} {b : Addr} {l : List Addr} (h : OwnOff r [b]) (k : OwnOff r l) : OwnOff r (b :: l) := fun p hp c hc => by
  rcases List.mem_cons.mp hc with rfl | hc
  · exact h p hp _ (.head _)
  · exact k p hp c hc
section
variable {prog : Program} {w : World} {A A₀ : Around} {s : Shared} {K : Frag} {L : Addr} {h₀ base : Heap} {m mg mb : Str → Option Value} {news : Led} {p : Program} {loose : List Str} {mean : ExcName → Option Value}
theorem code_defL {env : Env} {outer : List Env} {R : Result → Shared → Prop} {name qual : Str} {params : Arguments} {body rest : List Stmt} {st : Stmt} {scope : Scope} {dV kV doc pm cdv ct oc : Value} {an od : Option Addr} {osl : Array (Option Value)} {f : Addr} {args : Args} {binds : List (Str × Value)}
    (B : Below A₀ base outer h₀) (F : Fr h₀ L s.heap m) (X₀ : K.In h₀) (N : News h₀ L s.heap news) (T : Top p loose mean mg mb h₀) (hA : A.frames = some (env :: outer)) (hf : env.frame = some L) (hke : env.scope.kind = .function)
    (ho : K.lookup f = some ⟨oc, od, .func (fnOf name qual params body scope dV kV doc pm an cdv ct), osl⟩) (hcd : codeIn K cdv qual = true) (hroom : A.depth < recursionLimit)
    (hbind : BindsTo s (fnOf name qual params body scope dV kV doc pm an cdv ct) args binds) (hloc : ∀ y ∈ binds, scope.names.lookup y.1 = some .local) (hb : body = st :: rest)
    (h : ∀ g L' h₁, Fr h₀ L g m → Fr g L' h₁ (fun y => binds.reverse.lookup y) → News g L' h₁ news → Below A base (env :: outer) g → K.In g → Top p loose mean mg mb g →
      wpAny (model prog w) (A.deeper (envOf qual scope L' f cdv)) (execs (st :: rest) (envOf qual scope L' f cdv))
        (fun fl s' => LeaveK h₀ L m g R (match fl with | .ret v => v | _ => .none) s')
        (fun e s' => wpAny (model prog w) (A.deeper (envOf qual scope L' f cdv)) (leaving (envOf qual scope L' f cdv) e) (fun _ s'' => R (.error e) s'') (fun e' s'' => R (.error e') s'') s')
        { s with heap := h₁, toks := s.toks + binds.length })
    (hco : scope.isCoroutine = false) (hgen : scope.isGenerator = false) (hk : scope.kind = .function)
    (hcell : ∀ x ∈ scope.names, x.2 ≠ .cell) : codeAny (model prog w) A (.call (.ref f) args) R s := by
  subst hb
  exact code_def B F X₀ N T hA hf hke ho hcd hroom hbind hloc h hco hgen hk hcell
theorem code_defCL {env : Env} {outer : List Env} {R : Result → Shared → Prop} {name qual : Str} {params : Arguments} {body rest : List Stmt} {st : Stmt} {scope : Scope} {dV kV doc pm cdv ct oc : Value} {an od : Option Addr} {osl : Array (Option Value)} {f : Addr} {args : Args} {binds : List (Str × Value)}
    (B : Below A₀ base outer h₀) (F : Fr h₀ L s.heap m) (X₀ : K.In h₀) (N : News h₀ L s.heap news) (T : Top p loose mean mg mb h₀) (hA : A.frames = some (env :: outer)) (hf : env.frame = some L) (hke : env.scope.kind = .function)
    (ho : K.lookup f = some ⟨oc, od, .func (fnOf name qual params body scope dV kV doc pm an cdv ct), osl⟩) (hcd : codeIn K cdv qual = true) (hroom : A.depth < recursionLimit)
    (hbind : BindsTo s (fnOf name qual params body scope dV kV doc pm an cdv ct) args binds) (hkind : (binds.all fun y => scope.names.lookup y.1 == some .local || scope.names.lookup y.1 == some .cell) = true)
    (hnd : ((cellsFrom 0 scope.names []).map (·.1)).Nodup) (hb : body = st :: rest)
    (h : ∀ g L' h₁ tk cells, Fr h₀ L g m → Fr g L' h₁ (bindL (envOfC qual scope L' f cdv).kindOf binds fun _ => none) → News g L' h₁ (cells ++ news) →
      CellsAre (bindC (envOfC qual scope L' f cdv).kindOf binds fun _ => none) (cellsFrom (L' + 1) scope.names []) cells → Below A base (env :: outer) g → K.In g → Top p loose mean mg mb g → (∀ p ∈ news, p.1 < L') →
      wpAny (model prog w) (A.deeper (envOfC qual scope L' f cdv)) (execs (st :: rest) (envOfC qual scope L' f cdv))
        (fun fl s' => LeaveK h₀ L m g R (match fl with | .ret v => v | _ => .none) s')
        (fun e s' => wpAny (model prog w) (A.deeper (envOfC qual scope L' f cdv)) (leaving (envOfC qual scope L' f cdv) e) (fun _ s'' => R (.error e) s'') (fun e' s'' => R (.error e') s'') s')
        { s with heap := h₁, toks := tk })
    (hco : scope.isCoroutine = false) (hgen : scope.isGenerator = false) (hk : scope.kind = .function) : codeAny (model prog w) A (.call (.ref f) args) R s := by
  subst hb
  exact code_defC B F X₀ N T hA hf hke ho hcd hroom hbind hkind hnd h hco hgen hk
end
theorem says_use {w : World} {loose : List Str} {mean : ExcName → Option Value} {mg mb : Str → Option Value} {f : Addr} {vs : List Value} {kd ku : Nat} {news : Led} {Post : Value → Led → Prop} (C : Says w loose mean mg mb f vs kd ku news Post)
    {dp un : Nat} {gd : Option (List Code)} {cn : Str} {cs : Scope} {a : Addr} {ccd : Value} {cl : List (Str × Addr)} {outer : List Env} {A₀ : Around} {base h₀ : Heap} {L : Addr} {m : Str → Option Value} {s : Shared} {Q E : Value → Shared → Prop}
    (B : Below A₀ base outer h₀) (F : Fr h₀ L s.heap m) (X : (hd.heap_39 w.params).In h₀) (N : News h₀ L s.heap news) (T : Top hd.view_39 loose mean mg mb h₀) (hk : cs.kind = .function) (hd : dp + kd < recursionLimit) (hu : un + ku < cLine)
    (ret : ∀ (r : Value) (news' : Led) (h' : Heap) (tk' : Nat), Fr h₀ L h' m → News h₀ L h' news' → Post r news' → Q r { s with heap := h', toks := tk' }) :
    wpAny (model PySem.Challenge.rw_nt0650_01.row.prog w) (ktrTop dp un gd cn cs L a ccd cl outer) (call (.ref f) vs) Q E s := C _ _ _ _ _ _ _ _ _ _ _ _ _ _ _ _ _ B F X N T hk hd hu ret
theorem says_useZ {w : World} {loose : List Str} {mean : ExcName → Option Value} {mg mb : Str → Option Value} {f : Addr} {vs : List Value} {kd ku : Nat} {news : Led} {Post : Value → Led → Prop} (C : Says w loose mean mg mb f vs kd ku news Post)
    {dp un : Nat} {gd : Option (List Code)} {cn : Str} {cs : Scope} {a : Addr} {ccd : Value} {cl : List (Str × Addr)} {outer : List Env} {A₀ : Around} {base h₀ : Heap} {L : Addr} {m : Str → Option Value} {s : Shared} {Q E : Value → Shared → Prop}
    (B : Below A₀ base outer h₀) (F : Fr h₀ L s.heap m) (X : (hd.heap_39 w.params).In h₀) (N : News h₀ L s.heap news) (T : Top hd.view_39 loose mean mg mb h₀) (hk : cs.kind = .function) (hd : dp + kd < recursionLimit) (hu : un + ku < cLine)
    (ret : ∀ (r : Value) (news' : Led), Post r news' → ∀ (h' : Heap) (tk' : Nat), Fr h₀ L h' m → News h₀ L h' news' → Q r { s with heap := h', toks := tk' }) :
    wpAny (model PySem.Challenge.rw_nt0650_01.row.prog w) (ktrTop dp un gd cn cs L a ccd cl outer) (call (.ref f) vs) Q E s := C _ _ _ _ _ _ _ _ _ _ _ _ _ _ _ _ _ B F X N T hk hd hu fun r nx h' tk' F N P => ret r nx P h' tk' F N
theorem cps1 {α : Type} {f : α → Value} {g : α → Led} {S : α → Prop} {Z : Value → Led → Prop} (h : ∀ a, S a → Z (f a) (g a)) : ∀ r nx, (∃ a, r = f a ∧ nx = g a ∧ S a) → Z r nx := by
  rintro _ _ ⟨a, rfl, rfl, s⟩
  exact h a s
theorem cps2 {α β : Type} {f : α → β → Value} {g : α → β → Led} {Z : Value → Led → Prop} (h : ∀ a b, Z (f a b) (g a b)) : ∀ r nx, (∃ a b, r = f a b ∧ nx = g a b) → Z r nx := by
  rintro _ _ ⟨a, b, rfl, rfl⟩
  exact h a b
theorem cps2P {α β : Type} {P : Value → α → β → Prop} {g : α → β → Led} {Z : Value → Led → Prop} (h : ∀ a b r, P r a b → Z r (g a b)) : ∀ r nx, (∃ a b, P r a b ∧ nx = g a b) → Z r nx := by
  rintro r _ ⟨a, b, p, rfl⟩
  exact h a b r p
theorem cps2S {α β : Type} {f : α → β → Value} {g : α → β → Led} {S : α → β → Prop} {Z : Value → Led → Prop} (h : ∀ a b, S a b → Z (f a b) (g a b)) : ∀ r nx, (∃ a b, r = f a b ∧ nx = g a b ∧ S a b) → Z r nx := by
  rintro _ _ ⟨a, b, rfl, rfl, s⟩
  exact h a b s
theorem cps3S {α β γ : Type} {f : α → β → γ → Value} {g : α → β → γ → Led} {S : α → β → γ → Prop} {Z : Value → Led → Prop} (h : ∀ a b c, S a b c → Z (f a b c) (g a b c)) : ∀ r nx, (∃ a b c, r = f a b c ∧ nx = g a b c ∧ S a b c) → Z r nx := by
  rintro _ _ ⟨a, b, c, rfl, rfl, s⟩
  exact h a b c s
theorem cps16 {f : Nat → Addr → Addr → Tok → Tok → Tok → Tok → Tok → Tok → Tok → Tok → Tok → Tok → Tok → Tok → Tok → Value} {g : Nat → Addr → Addr → Tok → Tok → Tok → Tok → Tok → Tok → Tok → Tok → Tok → Tok → Tok → Tok → Tok → Led} {S : Nat → Addr → Addr → Tok → Tok → Tok → Tok → Tok → Tok → Tok → Tok → Tok → Tok → Tok → Tok → Tok → Prop} {Z : Value → Led → Prop} (h : ∀ n a d t0 t1 t2 t3 t4 t5 t6 t7 t8 t9 t10 t11 t12, S n a d t0 t1 t2 t3 t4 t5 t6 t7 t8 t9 t10 t11 t12 → Z (f n a d t0 t1 t2 t3 t4 t5 t6 t7 t8 t9 t10 t11 t12) (g n a d t0 t1 t2 t3 t4 t5 t6 t7 t8 t9 t10 t11 t12)) :
    ∀ r nx, (∃ n a d t0 t1 t2 t3 t4 t5 t6 t7 t8 t9 t10 t11 t12, r = f n a d t0 t1 t2 t3 t4 t5 t6 t7 t8 t9 t10 t11 t12 ∧ nx = g n a d t0 t1 t2 t3 t4 t5 t6 t7 t8 t9 t10 t11 t12 ∧ S n a d t0 t1 t2 t3 t4 t5 t6 t7 t8 t9 t10 t11 t12) → Z r nx := by
  rintro _ _ ⟨n, a, d, t0, t1, t2, t3, t4, t5, t6, t7, t8, t9, t10, t11, t12, rfl, rfl, s⟩
  exact h _ _ _ _ _ _ _ _ _ _ _ _ _ _ _ _ s
theorem lines_4 (P : Params) : (PySem.Challenge.rw_nt0650_01, hd.heap_39 P).1 = PySem.Challenge.rw_nt0650_01 := by
  k_fill
  k_with "nt_steps" => (repeat' (first | (k_unfold; (try dsimp only)) | walk1 | (dsimp only; walk1)))
  rfl

/-- a goal set aside: the walk stops here -/
noncomputable def Park (P : Prop) : Prop := P
theorem Park.out {P : Prop} (h : Park P) : P := h

theorem lines_5 (P : Params) : (PySem.Challenge.rw_nt0650_01, hd.heap_39 P).1 = PySem.Challenge.rw_nt0650_01 := by
  k_fill
  k_with "nt_pick" => (first | exact Pick.head | (refine' Pick.tail ?ntah17g1; (case ntah17g1 => k_extra "nt_pick")))
  k_with "nt_sub" => (first | with_reducible exact fun _ h => h | exact List.forall_mem_nil _ | (refine' List.forall_mem_cons.mpr ⟨?ntah18g1, ?ntbh18g1⟩; (case ntah18g1 => k_mem); (case ntbh18g1 => k_extra "nt_sub")) | (refine' nt_tl ?ntah18g2; (case ntah18g2 => k_extra "nt_sub")) | fail "nt_sub")
  k_with "nt_ne" => (first | with_reducible assumption | exact NeA.out (by with_reducible assumption) | exact NeA.out' (by with_reducible assumption) | (show @Ne Nat _ _; omega) | fail "nt_ne")
  k_with "nt_k_ne" => ((refine neN ?_; (try dsimp only); first | exact NeA.out (by with_reducible assumption) | exact NeA.out' (by with_reducible assumption) | omega))
  rfl

theorem lines_6 (P : Params) : (PySem.Challenge.rw_nt0650_01, hd.heap_39 P).1 = PySem.Challenge.rw_nt0650_01 := by
  k_fill
  k_with "nt_nes" => (first | (refine' And.intro ?ntah21g1 ?ntbh21g1; (case ntah21g1 => k_extra "nt_ne"); (case ntbh21g1 => k_extra "nt_nes")) | k_extra "nt_ne" | fail "nt_nes")
  k_with "nt_notin" => (first | exact List.not_mem_nil | (refine' fun h => (List.mem_cons.mp h).elim (neN ?ntah22g1) ?ntbh22g1; (case ntah22g1 => k_extra "nt_ne"); (case ntbh22g1 => k_extra "nt_notin")) | fail "nt_notin")
  k_with "nt_off" => (first | with_reducible assumption | exact off_nil | (refine' off_cons ?ntah23g1 ?ntbh23g1; (case ntah23g1 => k_extra "nt_notin"); (case ntbh23g1 => k_extra "nt_off")) | exact off_none | (refine' off_lt ?ntah23g2; (case ntah23g2 => first | with_reducible assumption | (simp only [*]; done))) | (refine' off_sub ?ntah23g3 ?ntbh23g3; (case ntah23g3 => with_reducible assumption); (case ntbh23g3 => (intro b hb; simp only [List.mem_cons, List.not_mem_nil, or_false] at hb ⊢; simp only [hb, true_or, or_true] <;> (rcases hb with hb | hb | hb | hb | hb <;> simp only [hb, true_or, or_true])))) | (refine' off_two ?ntah23g4 ?ntbh23g4; (case ntah23g4 => k_extra "nt_off"); (case ntbh23g4 => k_extra "nt_off")) | fail "nt_off")
  k_with "nt_k_all" => ((refine' fun p hp => Nat.ne_of_lt (ktn_ltOf ?kalh24g1 p hp); (case kalh24g1 => first | assumption | (simp only [*]; done))))
  rfl

section
variable {M : Model} {A : Around} {E : Value → Shared → Prop} {s : Shared} {h₀ : Heap} {L a : Addr} {m : Str → Option Value} {cn : Str} {cs : Scope} {ccd : Value} {cl : List (Str × Addr)} {x y : Str} {v u : Value} {pos p1 p2 p3 : Pos} {rest : List Expr} {K : Frag} {p : Program} {loose : List Str} {mean : ExcName → Option Value} {mg mb : Str → Option Value}
/-- a local's name -/
noncomputable def locB (env : Env) (x : Str) : Bool := env.scope.kind == .function && env.kindOf x == some .local && !(x == ("__debug__" : Str))
noncomputable def gloB (env : Env) (x : Str) : Bool := env.scope.kind == .function && env.kindOf x == some .globalImplicit && !(x == ("__debug__" : Str))
theorem name_l {Q : Value → Shared → Prop} (F : Fr h₀ L s.heap m) (hv : m x = some v) (hl : locB (envX cn cs L a ccd cl) x = true) (h : Q v s) : wpAny M A (eval (.Name x p1) (envX cn cs L a ccd cl)) Q E s := by
  simp only [locB, Bool.and_eq_true, beq_iff_eq, Bool.not_eq_true'] at hl
  exact nameX_L F hv h hl.1.1 hl.1.2 hl.2
theorem name_g {Q : Value → Shared → Prop} (F : Fr h₀ L s.heap m) (X : K.In h₀) (T : Top p loose mean mg mb h₀) (e : nsIn K mainGlobals x = some (some v)) (hl : gloB (envX cn cs L a ccd cl) x = true) (h : Q v s) : wpAny M A (eval (.Name x p1) (envX cn cs L a ccd cl)) Q E s := by
  simp only [gloB, Bool.and_eq_true, beq_iff_eq, Bool.not_eq_true'] at hl
  exact nameX_K F X (topRead_of T) e h hl.1.1 hl.1.2 hl.2
theorem args_L {Q : List Value → Shared → Prop} (F : Fr h₀ L s.heap m) (hv : m x = some v) (hl : locB (envX cn cs L a ccd cl) x = true)
    (h : wpAny M A (spliced (backTo pos (starEach rest (envX cn cs L a ccd cl)))) (fun vs s₂ => Q (v :: vs) s₂) E s) : wpAny M A (spliced (backTo pos (starEach (.Name x p1 :: rest) (envX cn cs L a ccd cl)))) Q E s :=
  args_cons (name_l F hv hl h)
theorem args_L1 {Q : List Value → Shared → Prop} (F : Fr h₀ L s.heap m) (hv : m x = some v) (hl : locB (envX cn cs L a ccd cl) x = true) (h : Q [v] s) : wpAny M A (spliced (backTo pos (starEach [.Name x p1] (envX cn cs L a ccd cl)))) Q E s :=
  args_L F hv hl (args_nil h)
theorem args_K {Q : List Value → Shared → Prop} (F : Fr h₀ L s.heap m) (X : K.In h₀) (T : Top p loose mean mg mb h₀) (e : nsIn K mainGlobals x = some (some v)) (hl : gloB (envX cn cs L a ccd cl) x = true)
    (h : wpAny M A (spliced (backTo pos (starEach rest (envX cn cs L a ccd cl)))) (fun vs s₂ => Q (v :: vs) s₂) E s) : wpAny M A (spliced (backTo pos (starEach (.Name x p1 :: rest) (envX cn cs L a ccd cl)))) Q E s :=
  args_cons (name_g F X T e hl h)
theorem args_K1 {Q : List Value → Shared → Prop} (F : Fr h₀ L s.heap m) (X : K.In h₀) (T : Top p loose mean mg mb h₀) (e : nsIn K mainGlobals x = some (some v)) (hl : gloB (envX cn cs L a ccd cl) x = true) (h : Q [v] s) : wpAny M A (spliced (backTo pos (starEach [.Name x p1] (envX cn cs L a ccd cl)))) Q E s :=
  args_K F X T e hl (args_nil h)
theorem args_I {env : Env} {i : Int} {k : Nat} {Q : List Value → Shared → Prop} (h : wpAny M A (spliced (backTo pos (starEach rest env))) (fun vs s₂ => Q (.int i s.toks :: vs) s₂) E { s with toks := s.toks + 1 }) : wpAny M A (spliced (backTo pos (starEach (.Constant (.int i) k p1 :: rest) env))) Q E s :=
  args_cons (wpAny_Constant_int h)
theorem args_I1 {env : Env} {i : Int} {k : Nat} {Q : List Value → Shared → Prop} (h : Q [.int i s.toks] { s with toks := s.toks + 1 }) : wpAny M A (spliced (backTo pos (starEach [.Constant (.int i) k p1] env))) Q E s :=
  args_I (args_nil h)
theorem args_N {env : Env} {k : Nat} {Q : List Value → Shared → Prop} (h : wpAny M A (spliced (backTo pos (starEach rest env))) (fun vs s₂ => Q (.none :: vs) s₂) E s) : wpAny M A (spliced (backTo pos (starEach (.Constant .none k p1 :: rest) env))) Q E s :=
  args_cons (wpAny_Constant_none h)
theorem args_N1 {env : Env} {k : Nat} {Q : List Value → Shared → Prop} (h : Q [.none] s) : wpAny M A (spliced (backTo pos (starEach [.Constant .none k p1] env))) Q E s :=
  args_N (args_nil h)
theorem call_nK {Q : Value → Shared → Prop} {args : List Expr} (F : Fr h₀ L s.heap m) (X : K.In h₀) (T : Top p loose mean mg mb h₀) (e : nsIn K mainGlobals x = some (some v)) (hl : gloB (envX cn cs L a ccd cl) x = true)
    (h : wpAny M A (callWith pos v [] (backTo pos (starEach args (envX cn cs L a ccd cl))) []) Q E s) : wpAny M A (eval (.Call (.Name x p1) args [] pos) (envX cn cs L a ccd cl)) Q E s :=
  Call_ (name_g F X T e hl h)
theorem call_nB {Q : Value → Shared → Prop} {args : List Expr} (F : Fr h₀ L s.heap m) (X : K.In h₀) (T : Top p loose mean mg mb h₀) (e : nsIn K mainGlobals x = some none) (hv : bootBuiltins x = some v) (hn : x ≠ "__name__") (hl : gloB (envX cn cs L a ccd cl) x = true)
    (h : wpAny M A (callWith pos v [] (backTo pos (starEach args (envX cn cs L a ccd cl))) []) Q E s) : wpAny M A (eval (.Call (.Name x p1) args [] pos) (envX cn cs L a ccd cl)) Q E s := by
  simp only [gloB, Bool.and_eq_true, beq_iff_eq, Bool.not_eq_true'] at hl
  exact Call_ (nameX_B F X (topRead_of T) e hv hn h hl.1.1 hl.1.2 hl.2)
theorem meth_L {Q : Value → Shared → Prop} {args : List Expr} {name : Str} {pl : Sem Bool} (F : Fr h₀ L s.heap m) (hv : m x = some v) (hl : locB (envX cn cs L a ccd cl) x = true)
    (h : wpAny M A (getMethod v name pl) (fun fx s₂ => wpAny M A (callWith pos fx.1 fx.2 (backTo pos (starEach args (envX cn cs L a ccd cl))) []) Q E s₂) E s)
    (he : eval (.Call (.Attribute (.Name x p1) name p2) args [] pos) (envX cn cs L a ccd cl) = (do
      let ov ← eval (.Name x p1) (envX cn cs L a ccd cl)
      standAt p2.atName
      let (f, first) ← holding [ov] (getMethod ov name pl)
      callWith pos f first (backTo pos (starEach args (envX cn cs L a ccd cl))) [])) :
    wpAny M A (eval (.Call (.Attribute (.Name x p1) name p2) args [] pos) (envX cn cs L a ccd cl)) Q E s :=
  MethodCall_ (name_l F hv hl h) he
theorem attr_L {Q : Value → Shared → Prop} {name : Str} (F : Fr h₀ L s.heap m) (hv : m x = some v) (hl : locB (envX cn cs L a ccd cl) x = true) (h : wpAny M A (getAttr v name true) Q E s) : wpAny M A (eval (.Attribute (.Name x p1) name p2) (envX cn cs L a ccd cl)) Q E s :=
  Attribute_Name_ (name_l F hv hl h)
theorem sub_L {Q : Value → Shared → Prop} {slice : Expr} (F : Fr h₀ L s.heap m) (hv : m x = some v) (hl : locB (envX cn cs L a ccd cl) x = true) (h : wpAny M A (eval slice (envX cn cs L a ccd cl)) (fun i s₂ => wpAny M A (subscriptTail (.Name x p1) slice v i) Q E s₂) E s) :
    wpAny M A (eval (.Subscript (.Name x p1) slice p2) (envX cn cs L a ccd cl)) Q E s := Subscript_ (name_l F hv hl h)
theorem sub_LL {Q : Value → Shared → Prop} (F : Fr h₀ L s.heap m) (hv : m x = some v) (hu : m y = some u) (hl : (locB (envX cn cs L a ccd cl) x && locB (envX cn cs L a ccd cl) y) = true) (h : wpAny M A (subscriptTail (.Name x p1) (.Name y p2) v u) Q E s) :
    wpAny M A (eval (.Subscript (.Name x p1) (.Name y p2) p3) (envX cn cs L a ccd cl)) Q E s := sub_L F hv (Bool.and_eq_true_iff.mp hl).1 (name_l F hu (Bool.and_eq_true_iff.mp hl).2 h)
theorem sub_LI {Q : Value → Shared → Prop} {i : Int} {k : Nat} (F : Fr h₀ L s.heap m) (hv : m x = some v) (hl : locB (envX cn cs L a ccd cl) x = true) (h : wpAny M A (subscriptTail (.Name x p1) (.Constant (.int i) k p2) v (.int i s.toks)) Q E { s with toks := s.toks + 1 }) :
    wpAny M A (eval (.Subscript (.Name x p1) (.Constant (.int i) k p2) p3) (envX cn cs L a ccd cl)) Q E s := sub_L F hv hl (wpAny_Constant_int h)
theorem bin_L {Q : Value → Shared → Prop} {r : Expr} {op : Operator} (F : Fr h₀ L s.heap m) (hv : m x = some v) (hl : locB (envX cn cs L a ccd cl) x = true) (h : wpAny M A (eval r (envX cn cs L a ccd cl)) (fun i s₂ => wpAny M A (binaryOp op v i) Q E s₂) E s) :
    wpAny M A (eval (.BinOp (.Name x p1) op r p2) (envX cn cs L a ccd cl)) Q E s := wpAny_BinOp (name_l F hv hl h)
theorem bin_LL {Q : Value → Shared → Prop} {op : Operator} (F : Fr h₀ L s.heap m) (hv : m x = some v) (hu : m y = some u) (hl : (locB (envX cn cs L a ccd cl) x && locB (envX cn cs L a ccd cl) y) = true) (h : wpAny M A (binaryOp op v u) Q E s) :
    wpAny M A (eval (.BinOp (.Name x p1) op (.Name y p2) p3) (envX cn cs L a ccd cl)) Q E s := bin_L F hv (Bool.and_eq_true_iff.mp hl).1 (name_l F hu (Bool.and_eq_true_iff.mp hl).2 h)
theorem bin_LI {Q : Value → Shared → Prop} {op : Operator} {i : Int} {k : Nat} (F : Fr h₀ L s.heap m) (hv : m x = some v) (hl : locB (envX cn cs L a ccd cl) x = true) (h : wpAny M A (binaryOp op v (.int i s.toks)) Q E { s with toks := s.toks + 1 }) :
    wpAny M A (eval (.BinOp (.Name x p1) op (.Constant (.int i) k p2) p3) (envX cn cs L a ccd cl)) Q E s := bin_L F hv hl (wpAny_Constant_int h)
theorem ist_L {Q : Bool → Shared → Prop} {r : Expr} {op : CmpOp} {whole : Sem Value} (F : Fr h₀ L s.heap m) (hv : m x = some v) (hl : locB (envX cn cs L a ccd cl) x = true) (h : wpAny M A (eval r (envX cn cs L a ccd cl)) (fun b s₂ => wpAny M A (compareOp op v b) (fun c s₃ => wpAny M A (truthy c) Q E s₃) E s₂) E s)
    (hm : behindInMarks op r = false) : wpAny M A (isTrue (.Compare (.Name x p1) [op] [r] p2) (envX cn cs L a ccd cl) whole) Q E s := wpAny_isTrue_Compare1 (name_l F hv hl h) hm
theorem ist_LL {Q : Bool → Shared → Prop} {op : CmpOp} {whole : Sem Value} (F : Fr h₀ L s.heap m) (hv : m x = some v) (hu : m y = some u) (hl : (locB (envX cn cs L a ccd cl) x && locB (envX cn cs L a ccd cl) y) = true) (h : wpAny M A (compareOp op v u) (fun c s₃ => wpAny M A (truthy c) Q E s₃) E s)
    (hm : behindInMarks op (.Name y p2) = false) : wpAny M A (isTrue (.Compare (.Name x p1) [op] [.Name y p2] p3) (envX cn cs L a ccd cl) whole) Q E s := ist_L F hv (Bool.and_eq_true_iff.mp hl).1 (name_l F hu (Bool.and_eq_true_iff.mp hl).2 h) hm
theorem ist_LI {Q : Bool → Shared → Prop} {op : CmpOp} {i : Int} {k : Nat} {whole : Sem Value} (F : Fr h₀ L s.heap m) (hv : m x = some v) (hl : locB (envX cn cs L a ccd cl) x = true) (h : wpAny M A (compareOp op v (.int i s.toks)) (fun c s₃ => wpAny M A (truthy c) Q E s₃) E { s with toks := s.toks + 1 })
    (hm : behindInMarks op (.Constant (.int i) k p2) = false) : wpAny M A (isTrue (.Compare (.Name x p1) [op] [.Constant (.int i) k p2] p3) (envX cn cs L a ccd cl) whole) Q E s := ist_L F hv hl (wpAny_Constant_int h) hm
end
theorem lines_7 (P : Params) : (PySem.Challenge.rw_nt0650_01, hd.heap_39 P).1 = PySem.Challenge.rw_nt0650_01 := by
  k_fill
  k_with "spliced" => ((k_here; (fail_if_success (with_reducible show wpAny _ _ (spliced (backTo _ (starEach _ (compEnvC _ _ _ _)))) _ _ _)); (fail_if_success (with_reducible show wpAny _ _ (spliced (backTo _ (starEach _ (compEnv _ _ _)))) _ _ _)); first | ((with_reducible show wpAny _ _ (spliced (backTo _ (starEach [PySem.Expr.Name _ _] _))) _ _ _); k_dflt (first | (refine' args_L1 ?agFh25g1 ?agvh25g1 ?aglh25g1 ?_; (case agFh25g1 => k_asm); (case aglh25g1 => exact Eq.refl true); (case agvh25g1 => exact rfl); k_whole) | (refine' args_K1 ?agFh25g2 ?agXh25g2 ?agTh25g2 ?ageh25g2 ?aglh25g2 ?_; (case agFh25g2 => k_asm); (case agXh25g2 => k_asm); (case agTh25g2 => with_reducible assumption); (case aglh25g2 => exact Eq.refl true); (case ageh25g2 => k_is); k_whole)); (try dsimp only [List.cons_append, List.nil_append])) | ((with_reducible show wpAny _ _ (spliced (backTo _ (starEach (PySem.Expr.Name _ _ :: _) _))) _ _ _); k_dflt (first | (refine' args_L ?agFh25g3 ?agvh25g3 ?aglh25g3 ?_; (case agFh25g3 => k_asm); (case aglh25g3 => exact Eq.refl true); (case agvh25g3 => exact rfl); k_whole) | (refine' args_K ?agFh25g4 ?agXh25g4 ?agTh25g4 ?ageh25g4 ?aglh25g4 ?_; (case agFh25g4 => k_asm); (case agXh25g4 => k_asm); (case agTh25g4 => with_reducible assumption); (case aglh25g4 => exact Eq.refl true); (case ageh25g4 => k_is); k_whole))) | ((with_reducible show wpAny _ _ (spliced (backTo _ (starEach [PySem.Expr.Constant Const.none _ _] _))) _ _ _); (refine args_N1 ?_); (try dsimp only [List.cons_append, List.nil_append])) | ((with_reducible show wpAny _ _ (spliced (backTo _ (starEach (PySem.Expr.Constant Const.none _ _ :: _) _))) _ _ _); refine args_N ?_) | ((with_reducible show wpAny _ _ (spliced (backTo _ (starEach [PySem.Expr.Constant (Const.int _) _ _] _))) _ _ _); (refine args_I1 ?_); (try dsimp only [List.cons_append, List.nil_append])) | ((with_reducible show wpAny _ _ (spliced (backTo _ (starEach (PySem.Expr.Constant (Const.int _) _ _ :: _) _))) _ _ _); refine args_I ?_)))
  k_with "eval Call Name" => ((k_here; (fail_if_success k_inBlock); (with_reducible show wpAny _ _ (eval (PySem.Expr.Call (PySem.Expr.Name _ _) _ [] _) _) _ _ _); k_dflt (first | (refine' call_nK ?agFh26g1 ?agXh26g1 ?agTh26g1 ?ageh26g1 ?aglh26g1 ?_; (case agFh26g1 => k_asm); (case agXh26g1 => k_asm); (case agTh26g1 => with_reducible assumption); (case aglh26g1 => exact Eq.refl true); (case ageh26g1 => k_is); k_whole) | (refine' call_nB ?agFh26g2 ?agXh26g2 ?agTh26g2 ?ageh26g2 ?agvh26g2 ?agnh26g2 ?aglh26g2 ?_; (case agFh26g2 => k_asm); (case agXh26g2 => k_asm); (case agTh26g2 => with_reducible assumption); (case aglh26g2 => exact Eq.refl true); (case ageh26g2 => k_is); (case agvh26g2 => boot_fast); (case agnh26g2 => decide); k_whole))))
  k_with "eval Call Attribute" => ((k_here; (fail_if_success k_inBlock); (with_reducible show wpAny _ _ (eval (PySem.Expr.Call (PySem.Expr.Attribute (PySem.Expr.Name _ _) _ _) _ [] _) _) _ _ _); k_dflt (refine' meth_L ?agFh27g1 ?agvh27g1 ?aglh27g1 ?_ ?ageh27g1; (case agFh27g1 => k_asm); (case aglh27g1 => exact Eq.refl true); (case ageh27g1 => exact rfl); (case agvh27g1 => exact rfl); k_whole)))
  k_with "eval Attribute Name" => ((k_here; (fail_if_success k_inBlock); first | ((with_reducible show wpAny _ _ (eval (PySem.Expr.Attribute (PySem.Expr.Name _ _) _ _) _) _ _ _); k_dflt (refine' attr_L ?agFh28g1 ?agvh28g1 ?aglh28g1 ?_; (case agFh28g1 => k_asm); (case aglh28g1 => exact Eq.refl true); (case agvh28g1 => exact rfl); k_whole))))
  k_with "eval Subscript Name" => ((k_here; (fail_if_success k_inBlock); first | ((with_reducible show wpAny _ _ (eval (PySem.Expr.Subscript (PySem.Expr.Name _ _) (PySem.Expr.Name _ _) _) _) _ _ _); k_dflt (refine' sub_LL ?agFh29g1 ?agvh29g1 ?aguh29g1 ?aglh29g1 ?_; (case agFh29g1 => k_asm); (case aglh29g1 => exact Eq.refl true); (case agvh29g1 => exact rfl); (case aguh29g1 => exact rfl); k_whole)) | ((with_reducible show wpAny _ _ (eval (PySem.Expr.Subscript (PySem.Expr.Name _ _) (PySem.Expr.Constant (PySem.Const.int _) _ _) _) _) _ _ _); k_dflt (refine' sub_LI ?agFh29g2 ?agvh29g2 ?aglh29g2 ?_; (case agFh29g2 => k_asm); (case aglh29g2 => exact Eq.refl true); (case agvh29g2 => exact rfl); k_whole)) | ((with_reducible show wpAny _ _ (eval (PySem.Expr.Subscript (PySem.Expr.Name _ _) _ _) _) _ _ _); k_dflt (refine' sub_L ?agFh29g3 ?agvh29g3 ?aglh29g3 ?_; (case agFh29g3 => k_asm); (case aglh29g3 => exact Eq.refl true); (case agvh29g3 => exact rfl); k_whole))))
  k_with "eval BinOp Name" => ((k_here; (fail_if_success k_inBlock); first | ((with_reducible show wpAny _ _ (eval (PySem.Expr.BinOp (PySem.Expr.Name _ _) _ (PySem.Expr.Name _ _) _) _) _ _ _); k_dflt (refine' bin_LL ?agFh30g1 ?agvh30g1 ?aguh30g1 ?aglh30g1 ?_; (case agFh30g1 => k_asm); (case aglh30g1 => exact Eq.refl true); (case agvh30g1 => exact rfl); (case aguh30g1 => exact rfl); k_whole)) | ((with_reducible show wpAny _ _ (eval (PySem.Expr.BinOp (PySem.Expr.Name _ _) _ (PySem.Expr.Constant (PySem.Const.int _) _ _) _) _) _ _ _); k_dflt (refine' bin_LI ?agFh30g2 ?agvh30g2 ?aglh30g2 ?_; (case agFh30g2 => k_asm); (case aglh30g2 => exact Eq.refl true); (case agvh30g2 => exact rfl); k_whole)) | ((with_reducible show wpAny _ _ (eval (PySem.Expr.BinOp (PySem.Expr.Name _ _) _ _ _) _) _ _ _); k_dflt (refine' bin_L ?agFh30g3 ?agvh30g3 ?aglh30g3 ?_; (case agFh30g3 => k_asm); (case aglh30g3 => exact Eq.refl true); (case agvh30g3 => exact rfl); k_whole))))
  k_with "isTrue Compare Name" => ((k_here; (fail_if_success k_inBlock); first | ((with_reducible show wpAny _ _ (isTrue (PySem.Expr.Compare (PySem.Expr.Name _ _) [_] [(PySem.Expr.Name _ _)] _) _ _) _ _ _); k_dflt (refine' ist_LL ?agFh31g1 ?agvh31g1 ?aguh31g1 ?aglh31g1 ?_ ?agmh31g1; (case agFh31g1 => k_asm); (case aglh31g1 => exact Eq.refl true); (case agvh31g1 => exact rfl); (case aguh31g1 => exact rfl); (case agmh31g1 => with_unfolding_all rfl); k_whole)) | ((with_reducible show wpAny _ _ (isTrue (PySem.Expr.Compare (PySem.Expr.Name _ _) [_] [(PySem.Expr.Constant (PySem.Const.int _) _ _)] _) _ _) _ _ _); k_dflt (refine' ist_LI ?agFh31g2 ?agvh31g2 ?aglh31g2 ?_ ?agmh31g2; (case agFh31g2 => k_asm); (case aglh31g2 => exact Eq.refl true); (case agvh31g2 => exact rfl); (case agmh31g2 => with_unfolding_all rfl); k_whole)) | ((with_reducible show wpAny _ _ (isTrue (PySem.Expr.Compare (PySem.Expr.Name _ _) [_] [_] _) _ _) _ _ _); k_dflt (refine' ist_L ?agFh31g3 ?agvh31g3 ?aglh31g3 ?_ ?agmh31g3; (case agFh31g3 => k_asm); (case aglh31g3 => exact Eq.refl true); (case agvh31g3 => exact rfl); (case agmh31g3 => with_unfolding_all rfl); k_whole))))
  rfl

end NtMine

end
local macro_rules | `(tactic| k_ne) => `(tactic| k_extra "nt_k_ne")
local macro_rules | `(tactic| k_all) => `(tactic| k_extra "nt_k_all")
-- NtComp
section
open PySem PySem.W PySem.Calls PyProof.Rows
set_option Elab.async false
namespace NtMine
section
variable {prog : Program} {w : World} {A : Around} {h₀ : Heap} {L : Addr} {m : Str → Option Value} {env : Env} {elt ct : Expr} {x : Str} {scope : Scope} {cl : List (Str × Addr)} {s : Shared} {S : Led → Prop} {P : Nat → Value → Prop} {Fin : List Value → Led → Prop}
/-- a comprehension's turns by an invariant -/
theorem nt_rest {n : Nat} (J : Nat → List Value → Led → Prop)
    (turn : ∀ i v ys news I oI C oC D m₂ h tk (E' : Value → Shared → Prop), i < n → P i v → J i ys news → LCg.NsObj oC m₂ → m₂ x = some v → Fr h₀ L h m → News h₀ L h ((I, oI) :: (C, oC) :: (D, LCg.lst ys) :: news) → LCg.Off3 I C D news → ((@Ne Nat I C) ∧ (@Ne Nat I D) ∧ (@Ne Nat C D)) →
      wpAny (model prog w) A (eval elt (compEnvC scope cl C env)) (LCg.CompEnd h₀ L m { s with heap := h, toks := tk } I oI C oC D (LCg.lst ys) S (fun y news' => J (i + 1) (ys ++ [y]) news')) E' { s with heap := h, toks := tk })
    (fin : ∀ ys news, J n ys news → Fin ys news) : ∀ news, J 0 [] news → LCg.CompRest prog w A h₀ L m env elt x scope cl s S P Fin n 0 [] news := by
  have key : ∀ (j i : Nat) (ys : List Value) (news : Led), i + j = n → J i ys news → LCg.CompRest prog w A h₀ L m env elt x scope cl s S P Fin j i ys news := by
    intro j
    induction j with
    | zero =>
      intro i ys news hi hJ
      have e : i = n := by omega
      subst e
      exact LCg.CompRest.zero (fin ys news hJ)
    | succ j ih =>
      intro i ys news hi hJ
      refine LCg.CompRest.succ ?_
      intro v I oI C oC D m₂ h tk E' hv hC hx F N off ne
      refine wpAny_mono (turn i v ys news I oI C oC D m₂ h tk E' (by omega) hv hJ hC hx F N off ne) (fun y s₂ hq => ?_) fun _ _ e => e
      obtain ⟨h', tk', nw, e, F', N', off', hS, hn⟩ := hq
      exact ⟨h', tk', nw, e, F', N', off', hS, ih (i + 1) _ nw (by omega) hn⟩
  exact fun news hJ => key n 0 [] news (by omega) hJ
/-- the same, with a test -/
theorem nt_restT {n : Nat} (J : Nat → List Value → Led → Prop)
    (turn : ∀ i v ys news I oI C oC D m₂ h tk (E' : Value → Shared → Prop), i < n → P i v → J i ys news → LCg.NsObj oC m₂ → m₂ x = some v → Fr h₀ L h m → News h₀ L h ((I, oI) :: (C, oC) :: (D, LCg.lst ys) :: news) → LCg.Off3 I C D news → ((@Ne Nat I C) ∧ (@Ne Nat I D) ∧ (@Ne Nat C D)) →
      wpAny (model prog w) A (isTrue ct (compEnvC scope cl C env) (eval ct (compEnvC scope cl C env))) (fun ok s' => if ok = true then
        wpAny (model prog w) A (eval elt (compEnvC scope cl C env)) (LCg.CompEnd h₀ L m { s with heap := h, toks := tk } I oI C oC D (LCg.lst ys) S (fun y news' => J (i + 1) (ys ++ [y]) news')) E' s'
        else LCg.CompEnd h₀ L m { s with heap := h, toks := tk } I oI C oC D (LCg.lst ys) S (fun _ news' => J (i + 1) ys news') Value.none s') E' { s with heap := h, toks := tk })
    (fin : ∀ ys news, J n ys news → Fin ys news) : ∀ news, J 0 [] news → LCt.CompRestT prog w A h₀ L m env ct elt x scope cl s S P Fin n 0 [] news := by
  have key : ∀ (j i : Nat) (ys : List Value) (news : Led), i + j = n → J i ys news → LCt.CompRestT prog w A h₀ L m env ct elt x scope cl s S P Fin j i ys news := by
    intro j
    induction j with
    | zero =>
      intro i ys news hi hJ
      have e : i = n := by omega
      subst e
      exact LCt.CompRestT.zero (fin ys news hJ)
    | succ j ih =>
      intro i ys news hi hJ
      refine LCt.CompRestT.succ ?_
      intro v I oI C oC D m₂ h tk E' hv hC hx F N off ne
      refine wpAny_mono (turn i v ys news I oI C oC D m₂ h tk E' (by omega) hv hJ hC hx F N off ne) (fun ok s₂ hq => ?_) fun _ _ e => e
      cases ok with
      | true =>
        rw [if_pos rfl] at hq ⊢
        refine wpAny_mono hq (fun y s₃ hq => ?_) fun _ _ e => e
        obtain ⟨h', tk', nw, e, F', N', off', hS, hn⟩ := hq
        exact ⟨h', tk', nw, e, F', N', off', hS, ih (i + 1) _ nw (by omega) hn⟩
      | false =>
        rw [if_neg Bool.false_ne_true] at hq ⊢
        obtain ⟨h', tk', nw, e, F', N', off', hS, hn⟩ := hq
        exact ⟨h', tk', nw, e, F', N', off', hS, ih (i + 1) _ nw (by omega) hn⟩
  exact fun news hJ => key n 0 [] news (by omega) hJ
end
section
variable {prog : Program} {w : World} {A : Around} {h₀ : Heap} {L ax : Addr} {m : Str → Option Value} {env : Env} {elt ct : Expr} {x : Str} {scope : Scope} {cl : List (Str × Addr)} {s : Shared} {Fin : Shared → List Value → Led → Prop} {vs : List Value} {k : Nat} {news : Led}
theorem nt_src (J : Nat → List Value → Led → Prop) (hh : A.handled = none) (F : Fr h₀ L s.heap m) (N : News h₀ L s.heap news) (hm : (ax, listOf vs.toArray k) ∈ news) (hb : vs.length ≤ 100000) (hj : J 0 [] news)
    (turn : ∀ i v ys nx I oI C oC D m₂ h tk (E' : Value → Shared → Prop), vs[i]? = some v → J i ys nx → LCg.NsObj oC m₂ → m₂ x = some v → Fr h₀ L h m → News h₀ L h ((I, oI) :: (C, oC) :: (D, LCg.lst ys) :: nx) → LCg.Off3 I C D nx → ((@Ne Nat I C) ∧ (@Ne Nat I D) ∧ (@Ne Nat C D)) →
      wpAny (model prog w) A (eval elt (compEnvC scope cl C env)) (LCg.CompEnd h₀ L m { s with heap := h, toks := tk } I oI C oC D (LCg.lst ys) (LCg.SrcAt h₀ ax vs.toArray) (fun y news' => J (i + 1) (ys ++ [y]) news')) E' { s with heap := h, toks := tk })
    (fin : ∀ g ys nx, J vs.length ys nx → Fin { s with heap := g } ys nx) : LCg.CompSrc prog w A h₀ L m env elt x scope cl Fin (.ref ax) s :=
  LCg.CompSrc.ledger hh F N hm (by rw [List.size_toArray, sizeLine_eq]; omega) fun g => nt_rest (s := { s with heap := g }) J (fun i v ys nx I oI C oC D m₂ h tk E' _ hv hJ hC hx F N off ne => turn i v ys nx I oI C oC D m₂ h tk E' (by simpa using hv) hJ hC hx F N off ne)
    (fun ys nx hJ => fin g ys nx (by rw [List.size_toArray] at hJ; exact hJ)) news hj
theorem nt_srcT (J : Nat → List Value → Led → Prop) (hh : A.handled = none) (F : Fr h₀ L s.heap m) (N : News h₀ L s.heap news) (hm : (ax, listOf vs.toArray k) ∈ news) (hb : vs.length ≤ 100000) (hj : J 0 [] news)
    (turn : ∀ i v ys nx I oI C oC D m₂ h tk (E' : Value → Shared → Prop), vs[i]? = some v → J i ys nx → LCg.NsObj oC m₂ → m₂ x = some v → Fr h₀ L h m → News h₀ L h ((I, oI) :: (C, oC) :: (D, LCg.lst ys) :: nx) → LCg.Off3 I C D nx → ((@Ne Nat I C) ∧ (@Ne Nat I D) ∧ (@Ne Nat C D)) →
      wpAny (model prog w) A (isTrue ct (compEnvC scope cl C env) (eval ct (compEnvC scope cl C env))) (fun ok s' => if ok = true then
        wpAny (model prog w) A (eval elt (compEnvC scope cl C env)) (LCg.CompEnd h₀ L m { s with heap := h, toks := tk } I oI C oC D (LCg.lst ys) (LCg.SrcAt h₀ ax vs.toArray) (fun y news' => J (i + 1) (ys ++ [y]) news')) E' s'
        else LCg.CompEnd h₀ L m { s with heap := h, toks := tk } I oI C oC D (LCg.lst ys) (LCg.SrcAt h₀ ax vs.toArray) (fun _ news' => J (i + 1) ys news') Value.none s') E' { s with heap := h, toks := tk })
    (fin : ∀ g ys nx, J vs.length ys nx → Fin { s with heap := g } ys nx) : LCt.CompSrcT prog w A h₀ L m env ct elt x scope cl Fin (.ref ax) s :=
  LCt.CompSrcT.ledger hh F N hm (by rw [List.size_toArray, sizeLine_eq]; omega) fun g => nt_restT (s := { s with heap := g }) J (fun i v ys nx I oI C oC D m₂ h tk E' _ hv hJ hC hx F N off ne => turn i v ys nx I oI C oC D m₂ h tk E' (by simpa using hv) hJ hC hx F N off ne)
    (fun ys nx hJ => fin g ys nx (by rw [List.size_toArray] at hJ; exact hJ)) news hj
end
end NtMine

end
-- NtCompL
section
theorem NtMine.InNtCompL.YesNtCompL.here : True := True.intro
open NtMine.InNtCompL
open PySem PySem.W PySem.Calls PyProof.Rows
set_option Elab.async false
namespace NtMine
theorem lines_8 (P : Params) : (PySem.Challenge.rw_nt0650_01, hd.heap_39 P).1 = PySem.Challenge.rw_nt0650_01 := by
  k_fill
  k_with "eval ListComp" => ((open YesNtCompL in skip); (k_here; (with_reducible show wpAny _ _ (eval (PySem.Expr.ListComp _ [PySem.Comprehension.mk _ _ [] _] _ _) _) _ _ _); k_dflt (refine LCg.ListComp_U (F₀ := by k_asm) (by rfl) (by decide) (by rfl) (by decide) (by rfl) ?_)))
  k_with "eval ListComp" => ((open YesNtCompL in skip); (k_here; (with_reducible show wpAny _ _ (eval (PySem.Expr.ListComp _ [PySem.Comprehension.mk _ _ [_] _] _ _) _) _ _ _); k_dflt (refine LCt.ListComp_T (F₀ := by k_asm) (by rfl) (by decide) (by rfl) (by decide) (by rfl) ?_)))
  k_with "exec Assign cons ListComp" => ((open YesNtCompL in skip); (k_here; (with_reducible show wpAny _ _ (exec (PySem.Stmt.Assign _ (PySem.Expr.ListComp _ [PySem.Comprehension.mk _ _ [] _] _ _) _) _) _ _ _); k_dflt (refine LCg.Assign_ListComp_U (F₀ := by k_asm) (by rfl) (by with_unfolding_all rfl) (by rfl) (by decide) (by rfl) (by decide) (by rfl) (by rfl) (by rfl) ?_)))
  k_with "CompSrc" => ((open YesNtCompL in skip); refine Park.out ?_)
  k_with "CompSrcT" => ((open YesNtCompL in skip); refine Park.out ?_)
  k_with "CompEnd" => ((open YesNtCompL in skip); refine Park.out ?_)
  rfl

end NtMine

end
-- NtLoop
section
open PySem PySem.W PySem.Calls PyProof.Rows PyProof.V PySem.Spec
set_option Elab.async false
namespace NtMine
set_option maxRecDepth 100000
section
variable {prog : Program} {w : World} {A : Around} {E : Value → Shared → Prop} {s : Shared} {env : Env} {h₀ : Heap} {x : Str} {body : List Stmt} {Q : Flow → Shared → Prop}

theorem nt_iter_list {l : Addr} {vs : List Value} {nn : Nat} {m₀ : Str → Option Value} {news : Led} (J : Nat → (Str → Option Value) → Led → Prop)
    (hh : A.handled = none) (hl : (l, listOf vs.toArray nn) ∈ news) (F : Fr h₀ env.locals s.heap m₀) (N : News h₀ env.locals s.heap news) (hj : J 0 m₀ news) (hJl : ∀ i m nx, J i m nx → (l, listOf vs.toArray nn) ∈ nx)
    (turn : ∀ i v m₁ news₁ h tk I o, vs[i]? = some v → o.cls = .type "list_iterator" → OwnOff [(I, o)] (news₁.map (·.1)) → J i m₁ news₁ → Fr h₀ env.locals h (fun y => if y = x then some v else m₁ y) → News h₀ env.locals h ((I, o) :: news₁) →
      wpAny (model prog w) A (execs body env) (InvPostG h₀ env.locals (J (i + 1)) [(I, o)] { s with heap := h, toks := tk } Q) E { s with heap := h, toks := tk })
    (done : ∀ m₁ news₁ h tk, J vs.length m₁ news₁ → Fr h₀ env.locals h m₁ → News h₀ env.locals h news₁ → Q .next { s with heap := h, toks := tk }) :
    wpAny (model prog w) A (pyIter (.ref l)) (fun it s₂ => LoopAtV prog w A h₀ env x body Q E it s₂) E s := by
  have hol : s.heap.get? l = some (listOf vs.toArray nn) := (N _ hl).1
  have hls : s.heap.IsList l vs.toArray := ⟨_, hol, rfl, nn, rfl⟩
  have hne : l ≠ s.heap.objs.size := Nat.ne_of_lt (Heap.lt_size hol)
  refine wpAny_pyIter_list hls ?_
  have W := Walks.list (prog := prog) (w := w) hh s.heap.objs.size l hne vs.toArray
  have hlen : vs.toArray.size = vs.length := List.size_toArray ..
  rw [hlen] at W
  refine ⟨_, _, _, vs.length, _, _, m₀, news, J, rfl, W, ?_, ?_, ?_, ⟨⟨_, Heap.get?_push_size _ rfl, rfl, rfl⟩, hls.at fun o e => Heap.get?_push_of_some _ e⟩, F.push _, (fun p hp => ⟨Heap.get?_push_of_some _ (N p hp).1, (N p hp).2⟩), hj, ?_, ?_⟩
  · intro hm
    rcases List.mem_cons.mp hm with e | hm
    · exact absurd F.ns.lt (e ▸ Nat.lt_irrefl _)
    · exact (N _ hl).2.1 ((List.mem_singleton.mp hm).symm)
  · intro b hb
    rw [List.mem_singleton.mp hb]
    exact next_is_new F
  · intro p hp hI
    exact absurd (Heap.lt_size (N p hp).1) ((List.mem_singleton.mp hI) ▸ Nat.lt_irrefl _)
  · rintro i v m₁ news₁ s₁ own ⟨hh', tk', rfl⟩ hin hP hJ hoff hown hget hfp hst F₁ N₁
    have hI0 : h₀.get? s.heap.objs.size = none := next_is_new F
    obtain ⟨⟨oI, hoI, hcI, _⟩, _⟩ := id hst
    have hIown : (s.heap.objs.size, oI) ∈ own := hfp _ (List.mem_cons.mpr (.inl rfl)) hI0 _ hoI
    have hl₁ : (l, listOf vs.toArray nn) ∈ news₁ := hJl _ _ _ hJ
    have hlo : hh'.get? l = some (listOf vs.toArray nn) := (N₁ _ (List.mem_append.mpr (.inr hl₁))).1
    have hsep : OwnOff [(s.heap.objs.size, oI)] (news₁.map (·.1)) := by
      intro p hp b hb e
      obtain ⟨q, hq, rfl⟩ := List.mem_map.mp hb
      rw [List.mem_singleton.mp hp] at e
      exact hoff q hq (List.mem_singleton.mpr e.symm)
    have hv : vs[i]? = some v := by simpa using hP
    have N₂ : News h₀ env.locals hh' ((s.heap.objs.size, oI) :: news₁) := fun p hp => N₁ p ((List.mem_cons.mp hp).elim (fun h => List.mem_append.mpr (.inl (h ▸ hIown))) fun h => List.mem_append.mpr (.inr h))
    refine wpAny_mono (turn i v m₁ news₁ hh' tk' _ oI hv hcI hsep hJ F₁ N₂) (fun f s₂ p => ?_) fun _ _ e => e
    have fin : InvEndG h₀ env.locals (J (i + 1)) [(s.heap.objs.size, oI)] { s with heap := hh', toks := tk' } s₂ → LoopStepU h₀ env.locals [s.heap.objs.size] own (J (i + 1)) { s with heap := hh', toks := tk' } .next s₂ := by
      rintro ⟨h', tk, m', news', nx, e, F', N', hn, ho, ha, hm⟩
      refine ⟨rfl, h', tk, m', nx, e, F', fun p hp => ?_, fun p hp hq => ?_, hm⟩
      · rcases List.mem_append.mp hp with h | h
        · rcases List.mem_cons.mp (hown p h) with h2 | h2
          · have h3 : hh'.get? p.1 = some p.2 := hget p h
            rw [h2, hoI] at h3
            have h4 : p = (s.heap.objs.size, oI) := Prod.ext h2 (Option.some.inj h3).symm
            exact N' p (ho p (h4 ▸ .head _))
          · have h1 : p.1 = l := List.mem_singleton.mp h2
            have h3 : hh'.get? p.1 = some p.2 := hget p h
            rw [h1, hlo] at h3
            have h4 : p = (l, listOf vs.toArray nn) := Prod.ext h1 (Option.some.inj h3).symm
            rw [h4]
            exact N' _ (hn _ (hJl _ _ _ hm))
        · exact N' p (hn p h)
      · exact ha _ (.head _) p.1 (List.mem_map.mpr ⟨p, hp, rfl⟩) (List.mem_singleton.mp hq).symm
    cases f with
    | ret v => exact .ret p
    | brk => exact .brk p
    | next => exact .next (fin p)
    | cont => exact .cont (fin p)
  · rintro h' tk m' news' F' N' _ hJ
    exact done m' news' h' tk hJ F' N'

theorem nt_iter_range {r : Addr} {a₀ b₀ c₀ : Int} {t₀ u₀ v₀ : Tok} {n : Nat} {m₀ : Str → Option Value} {news : Led} (J : Nat → (Str → Option Value) → Led → Prop)
    (hh : A.handled = none) (hr : IsRange s.heap r a₀ b₀ c₀ t₀ u₀ v₀) (hsmall : Builtin.Range.small a₀ b₀ c₀ = true) (hn : Builtin.Range.rangeSize a₀ b₀ c₀ = (n : Int)) (F : Fr h₀ env.locals s.heap m₀) (N : News h₀ env.locals s.heap news) (hj : J 0 m₀ news)
    (turn : ∀ i t m₁ news₁ h tk I o, i < n → OwnOff [(I, o)] (news₁.map (·.1)) → J i m₁ news₁ → Fr h₀ env.locals h (fun y => if y = x then some (.int (a₀ + (i : Int) * c₀) t) else m₁ y) → News h₀ env.locals h ((I, o) :: news₁) →
      wpAny (model prog w) A (execs body env) (InvPostG h₀ env.locals (J (i + 1)) [(I, o)] { s with heap := h, toks := tk } Q) E { s with heap := h, toks := tk })
    (done : ∀ m₁ news₁ h tk, J n m₁ news₁ → Fr h₀ env.locals h m₁ → News h₀ env.locals h news₁ → Q .next { s with heap := h, toks := tk }) :
    wpAny (model prog w) A (pyIter (.ref r)) (fun it s₂ => LoopAtV prog w A h₀ env x body Q E it s₂) E s := by
  refine wpAny_pyIter_range hr hsmall ?_
  have W : Walks prog w A s.heap.objs.size [s.heap.objs.size] [s.heap.objs.size] n (fun i v => i < n ∧ ∃ t, v = .int (a₀ + i * c₀) t)
      (fun i h => IsRangeIter h s.heap.objs.size (a₀ + (i : Nat) * c₀) ((n : Int) - (i : Nat)) c₀) := (Walks.range hh _ a₀ c₀ n).bound
  refine ⟨_, _, _, n, _, _, m₀, news, J, rfl, W, ?_, ?_, ?_, (by show IsRangeIter _ _ _ _ _; rw [hn]; simpa using Heap.get?_push_size _ rfl), F.push _, (fun p hp => ⟨Heap.get?_push_of_some _ (N p hp).1, (N p hp).2⟩), hj, ?_, ?_⟩
  · intro hm
    exact absurd F.ns.lt ((List.mem_singleton.mp hm) ▸ Nat.lt_irrefl _)
  · intro b hb
    rw [List.mem_singleton.mp hb]
    exact next_is_new F
  · intro p hp hI
    exact absurd (Heap.lt_size (N p hp).1) ((List.mem_singleton.mp hI) ▸ Nat.lt_irrefl _)
  · rintro i v m₁ news₁ s₁ own ⟨hh', tk', rfl⟩ hin ⟨_, t, rfl⟩ hJ hoff hown hget hfp hst F₁ N₁
    have hI0 : h₀.get? s.heap.objs.size = none := next_is_new F
    obtain ⟨oI, hoI⟩ : ∃ o, hh'.get? s.heap.objs.size = some o := ⟨_, hst⟩
    have hIown : (s.heap.objs.size, oI) ∈ own := hfp _ (List.mem_singleton.mpr rfl) hI0 _ hoI
    have hsep : OwnOff [(s.heap.objs.size, oI)] (news₁.map (·.1)) := by
      intro p hp b hb e
      obtain ⟨q, hq, rfl⟩ := List.mem_map.mp hb
      rw [List.mem_singleton.mp hp] at e
      exact hoff q hq (List.mem_singleton.mpr e.symm)
    have N₂ : News h₀ env.locals hh' ((s.heap.objs.size, oI) :: news₁) := fun p hp => N₁ p ((List.mem_cons.mp hp).elim (fun h => List.mem_append.mpr (.inl (h ▸ hIown))) fun h => List.mem_append.mpr (.inr h))
    refine wpAny_mono (turn i t m₁ news₁ hh' tk' _ oI hin hsep hJ F₁ N₂) (fun f s₂ p => ?_) fun _ _ e => e
    have fin : InvEndG h₀ env.locals (J (i + 1)) [(s.heap.objs.size, oI)] { s with heap := hh', toks := tk' } s₂ → LoopStepU h₀ env.locals [s.heap.objs.size] own (J (i + 1)) { s with heap := hh', toks := tk' } .next s₂ := by
      rintro ⟨h', tk, m', news', nx, e, F', N', hn, ho, ha, hm⟩
      refine ⟨rfl, h', tk, m', nx, e, F', fun p hp => ?_, fun p hp hq => ?_, hm⟩
      · rcases List.mem_append.mp hp with h | h
        · have h2 : p.1 = s.heap.objs.size := List.mem_singleton.mp (hown p h)
          have h3 : hh'.get? p.1 = some p.2 := hget p h
          rw [h2, hoI] at h3
          have h4 : p = (s.heap.objs.size, oI) := Prod.ext h2 (Option.some.inj h3).symm
          exact N' p (ho p (h4 ▸ .head _))
        · exact N' p (hn p h)
      · exact ha _ (.head _) p.1 (List.mem_map.mpr ⟨p, hp, rfl⟩) (List.mem_singleton.mp hq).symm
    cases f with
    | ret v => exact .ret p
    | brk => exact .brk p
    | next => exact .next (fin p)
    | cont => exact .cont (fin p)
  · rintro h' tk m' news' F' N' _ hJ
    exact done m' news' h' tk hJ F' N'
theorem nt_range0 {r : Addr} {a₀ b₀ c₀ : Int} {t₀ u₀ v₀ : Tok} {n : Nat} {m₀ : Str → Option Value} {news : Led} (J : Nat → Led → Prop)
    (hh : A.handled = none) (hr : IsRange s.heap r a₀ b₀ c₀ t₀ u₀ v₀) (hsmall : Builtin.Range.small a₀ b₀ c₀ = true) (hn : Builtin.Range.rangeSize a₀ b₀ c₀ = (n : Int)) (F : Fr h₀ env.locals s.heap m₀) (N : News h₀ env.locals s.heap news) (hj : J 0 news)
    (turn : ∀ i t news₁ h tk I o, i < n → OwnOff [(I, o)] (news₁.map (·.1)) → J i news₁ → Fr h₀ env.locals h (fun y => if y = x then some (.int (a₀ + (i : Int) * c₀) t) else m₀ y) → News h₀ env.locals h ((I, o) :: news₁) →
      wpAny (model prog w) A (execs body env) (InvPostG h₀ env.locals (fun m nx => (∀ z, z ≠ x → m z = m₀ z) ∧ J (i + 1) nx) [(I, o)] { s with heap := h, toks := tk } Q) E { s with heap := h, toks := tk })
    (done : ∀ (u : Str → Option Value) news₁ h tk, J n news₁ → Fr h₀ env.locals h (fun y => if y = x then u y else m₀ y) → News h₀ env.locals h news₁ → Q .next { s with heap := h, toks := tk }) :
    wpAny (model prog w) A (pyIter (.ref r)) (fun it s₂ => LoopAtV prog w A h₀ env x body Q E it s₂) E s :=
  nt_iter_range (fun i m nx => (∀ z, z ≠ x → m z = m₀ z) ∧ J i nx) hh hr hsmall hn F N ⟨fun _ _ => rfl, hj⟩
    (fun i t m₁ news₁ h tk I o hi ho hJ F₁ N₁ => turn i t news₁ h tk I o hi ho hJ.2 (by rw [map_none hJ.1] at F₁; exact F₁) N₁)
    (fun m₁ news₁ h tk hJ F₁ N₁ => done m₁ news₁ h tk hJ.2 (by rw [done_none hJ.1]; exact F₁) N₁)
theorem nt_list1C {l : Addr} {vs : List Value} {nn : Nat} {m₀ : Str → Option Value} {news : Led} {y : Str} {u₀ : Value} (J : Nat → Value → Led → Prop)
    (hh : A.handled = none) (hl : (l, listOf vs.toArray nn) ∈ news) (F : Fr h₀ env.locals s.heap m₀) (N : News h₀ env.locals s.heap news) (hy : m₀ y = some u₀) (hj : J 0 u₀ news) (hJl : ∀ i u nx, J i u nx → (l, listOf vs.toArray nn) ∈ nx)
    (turn : ∀ i v u news₁ h tk I o, vs[i]? = some v → o.cls = .type "list_iterator" → OwnOff [(I, o)] (news₁.map (·.1)) → J i u news₁ → Fr h₀ env.locals h (fun z => if z = x then some v else if z = y then some u else m₀ z) → News h₀ env.locals h ((I, o) :: news₁) →
      wpAny (model prog w) A (execs body env) (InvPostG h₀ env.locals (fun m nx => (∀ z, z ≠ x → z ≠ y → m z = m₀ z) ∧ ∃ u, m y = some u ∧ J (i + 1) u nx) [(I, o)] { s with heap := h, toks := tk } Q) E { s with heap := h, toks := tk })
    (done : ∀ (w : Str → Option Value) u news₁ h tk, J vs.length u news₁ → Fr h₀ env.locals h (fun z => if z = x then w z else if z = y then some u else m₀ z) → News h₀ env.locals h news₁ → Q .next { s with heap := h, toks := tk }) :
    wpAny (model prog w) A (pyIter (.ref l)) (fun it s₂ => LoopAtV prog w A h₀ env x body Q E it s₂) E s :=
  nt_iter_list (fun i m nx => (∀ z, z ≠ x → z ≠ y → m z = m₀ z) ∧ ∃ u, m y = some u ∧ J i u nx) hh hl F N ⟨fun _ _ _ => rfl, u₀, hy, hj⟩ (fun i m nx hJ => let ⟨_, _, h⟩ := hJ.2; hJl _ _ _ h)
    (fun i v m₁ news₁ h tk I o hi hc ho hJ F₁ N₁ => by
      obtain ⟨h1, u, h2, h3⟩ := hJ
      refine turn i v u news₁ h tk I o hi hc ho h3 ?_ N₁
      rw [map_one h2 h1] at F₁
      exact F₁)
    (fun m₁ news₁ h tk hJ F₁ N₁ => by
      obtain ⟨h1, u, h2, h3⟩ := hJ
      refine done m₁ u news₁ h tk h3 ?_ N₁
      rw [done_one h2 h1]
      exact F₁)
theorem nt_list1 {l : Addr} {vs : List Value} {nn : Nat} {m₀ : Str → Option Value} {news : Led} {y : Str} {u₀ : Value} (J : Nat → Value → Led → Prop)
    (hh : A.handled = none) (hl : (l, listOf vs.toArray nn) ∈ news) (F : Fr h₀ env.locals s.heap m₀) (N : News h₀ env.locals s.heap news) (hy : m₀ y = some u₀) (hj : J 0 u₀ news) (hJl : ∀ i u nx, J i u nx → (l, listOf vs.toArray nn) ∈ nx)
    (turn : ∀ i v u news₁ h tk I o, vs[i]? = some v → OwnOff [(I, o)] (news₁.map (·.1)) → J i u news₁ → Fr h₀ env.locals h (fun z => if z = x then some v else if z = y then some u else m₀ z) → News h₀ env.locals h ((I, o) :: news₁) →
      wpAny (model prog w) A (execs body env) (InvPostG h₀ env.locals (fun m nx => (∀ z, z ≠ x → z ≠ y → m z = m₀ z) ∧ ∃ u, m y = some u ∧ J (i + 1) u nx) [(I, o)] { s with heap := h, toks := tk } Q) E { s with heap := h, toks := tk })
    (done : ∀ (w : Str → Option Value) u news₁ h tk, J vs.length u news₁ → Fr h₀ env.locals h (fun z => if z = x then w z else if z = y then some u else m₀ z) → News h₀ env.locals h news₁ → Q .next { s with heap := h, toks := tk }) :
    wpAny (model prog w) A (pyIter (.ref l)) (fun it s₂ => LoopAtV prog w A h₀ env x body Q E it s₂) E s :=
  nt_list1C J hh hl F N hy hj hJl (fun i v u news₁ h tk I o hi _ ho hJ F₁ N₁ => turn i v u news₁ h tk I o hi ho hJ F₁ N₁) done
theorem nt_invEnd {L : Addr} {J : (Str → Option Value) → Led → Prop} {m' : Str → Option Value} {I : Addr} {o : Obj} {nx : Led} {s₁ : Shared} {h' : Heap} {tk : Nat} (F : Fr h₀ L h' m') (N : News h₀ L h' ((I, o) :: nx))
    (hj : J m' nx) (ha : OwnOff [(I, o)] (nx.map (·.1))) : InvEndG h₀ L J [(I, o)] s₁ { s₁ with heap := h', toks := tk } := ⟨h', tk, m', _, nx, rfl, F, N, fun p hp => .tail _ hp, fun p hp => by rw [List.mem_singleton.mp hp]; exact .head _, ha, hj⟩
end
theorem lines_9 (P : Params) : (PySem.Challenge.rw_nt0650_01, hd.heap_39 P).1 = PySem.Challenge.rw_nt0650_01 := by
  k_fill
  k_with "exec For" => ((k_here; (rename Fr _ _ _ _ => lF'); (with_unfolding_all refine' For_invVF lF' ?k1h38g1 ?k2h38g1 ?_; (case k1h38g1 => exact rfl); (case k2h38g1 => exact rfl); k_whole)))
  k_with "exec For Name Call cons nil" => ((k_here; (rename Fr _ _ _ _ => lF'); (with_unfolding_all refine' For_invVF lF' ?k1h39g1 ?k2h39g1 ?_; (case k1h39g1 => exact rfl); (case k2h39g1 => exact rfl); k_whole)))
  k_with "exec For Name Attribute cons nil" => ((k_here; (rename Fr _ _ _ _ => lF'); (with_unfolding_all refine' For_invVF lF' ?k1h40g1 ?k2h40g1 ?_; (case k1h40g1 => exact rfl); (case k2h40g1 => exact rfl); k_whole)))
  k_with "exec For Name Name cons nil" => ((k_here; (rename Fr _ _ _ _ => lF'); (with_unfolding_all refine' For_invVF lF' ?k1h41g1 ?k2h41g1 ?_; (case k1h41g1 => exact rfl); (case k2h41g1 => exact rfl); k_whole)))
  k_with "pyIter ref" => ((k_here; (with_reducible show wpAny _ _ (pyIter (Value.ref _)) (fun it s₂ => LoopAtV _ _ _ _ _ _ _ _ _ it s₂) _ _); refine Park.out ?_))
  k_with "nt_enter" => ((refine' code_defL ?k1h43g1 ?k2h43g1 ?k3h43g1 ?k4h43g1 ?k5h43g1 ?kAh43g1 ?kFh43g1 ?kKh43g1 ?k6h43g1 ?k7h43g1 ?k8h43g1 ?k9h43g1 ?kBh43g1 ?kLh43g1 ?_ ?c2h43g1 ?c3h43g1 ?c4h43g1 ?c5h43g1; (case kAh43g1 => exact rfl); (case kFh43g1 => exact rfl); (case kKh43g1 => first | exact rfl | assumption); (case k1h43g1 => k_asm); (case k2h43g1 => k_asm); (case k3h43g1 => k_asm); (case k4h43g1 => k_asm); (case k5h43g1 => k_asm); (case k6h43g1 => k_is); (case k7h43g1 => k_is); (case kLh43g1 => exact rfl); (case k8h43g1 => ktr_room); (case k9h43g1 => first | exact BindsTo.of_eq rfl | exact binds_K (by k_in) rfl (by k_is) rfl rfl rfl | fail "nt_enter: no rule for these arguments"); (case c5h43g1 => decide); (case kBh43g1 => exact locs rfl); (case c2h43g1 => exact rfl); (case c3h43g1 => exact rfl); (case c4h43g1 => exact rfl); k_whole; intro g' L' h' FG' F' N' B' X' T'; (try dsimp only); (try k_lift B'); (try k_fold)))
  k_with "call ref" => ((k_here; k_dflt (first | (refine' call_cls ?k1h44g1 ?k2h44g1 ?k3h44g1 ?k4h44g1 ?k5h44g1 ?k6h44g1 ?_; (case k1h44g1 => k_asm); (case k2h44g1 => k_asm); (case k3h44g1 => k_asm); (case k4h44g1 => k_is); (case k5h44g1 => k_is); (case k6h44g1 => k_is); k_whole; intro x' d' h' F' N' l1 l2; (try k_lt l1); (try k_lt2 l2); (try k_sweep); k_extra "nt_enter") | (refine wpAny_call ?_; k_extra "nt_enter") | (refine' call_meth ?k1h44g3 ?k2h44g3 ?_; (case k1h44g3 => k_asm); (case k2h44g3 => k_mem); k_whole; k_extra "nt_enter"))))
  k_with "callWith ref" => ((k_here; k_dflt (first | (refine' callWith_K ?k1h45g1 ?k2h45g1 ?_; (case k1h45g1 => with_reducible assumption); (case k2h45g1 => k_is); k_whole) | (refine' callWith_K0 ?kah45g2 ?k2h45g2 ?_; (case kah45g2 => k_in); (case k2h45g2 => k_is); k_whole))))
  k_with "nt_k_in" => (first | with_reducible assumption | (refine' Frag.In.keeps ?nkah46g1 (Fr.keep ?nkbh46g1); (case nkbh46g1 => with_reducible assumption); (case nkah46g1 => with_reducible assumption)))
  rfl

theorem lines_10 (P : Params) : (PySem.Challenge.rw_nt0650_01, hd.heap_39 P).1 = PySem.Challenge.rw_nt0650_01 := by
  k_fill
  k_with "getAttr ref" => ((k_here; k_dflt (refine' get_prop ?k1h47g1 ?k2h47g1 ?k3h47g1 ?k4h47g1 ?k5h47g1 ?k6h47g1 ?k7h47g1 ?k8h47g1 ?k9h47g1 ?_; (case k1h47g1 => k_asm); (case k2h47g1 => k_asm); (case k3h47g1 => k_inst); (case k4h47g1 => k_is); (case k5h47g1 => k_is); (case k6h47g1 => k_is); (case k7h47g1 => k_is); (case k8h47g1 => k_is); (case k9h47g1 => k_is); k_whole; k_extra "nt_enter")))
  k_with "nt_memD" => (first | exact List.Mem.head _ | (refine' List.Mem.tail _ ?ntah48g1; (case ntah48g1 => k_extra "nt_memD")) | ((fail_if_success refine' List.Mem.tail _ ?_); assumption))
  k_with "nt_k_mem" => (k_extra "nt_memD")
  rfl

theorem lines_11 (P : Params) : (PySem.Challenge.rw_nt0650_01, hd.heap_39 P).1 = PySem.Challenge.rw_nt0650_01 := by
  k_fill
  k_with "InvPostG" => ((dsimp only [InvPostG]))
  rfl

end NtMine

end
local macro_rules | `(tactic| k_in) => `(tactic| k_extra "nt_k_in")
local macro_rules | `(tactic| k_mem) => `(tactic| k_extra "nt_k_mem")
-- NtGrow
section
open PySem PySem.W PySem.Calls PyProof.Rows
set_option Elab.async false
namespace NtMine
set_option pp.deepTerms false
set_option pp.maxSteps 3000
noncomputable def grown (vs : List Value) (k : Int) : List Value := vs ++ List.replicate (k - vs.length).toNat .none
theorem grown_length (vs : List Value) (k : Int) (hk : 0 ≤ k) : ((grown vs k).length : Int) = max (vs.length : Int) k := by
  unfold grown
  rw [List.length_append, List.length_replicate]
  omega
set_option maxRecDepth 100000 in
set_option maxHeartbeats 8000000 in
theorem grow_says {w : World} {loose : List Str} {mean : ExcName → Option Value} {mg mb : Str → Option Value} {kt : Nat → Tok} {x dx stk : Addr} {top : Int} {tt : Tok} {frs up : Addr} {vs : List Value} {n : Nat} {rest : Led} {size : Int} {ts : Tok}
   (hne : NeA x dx ∧ NeA x stk ∧ NeA dx stk) (hoff : OwnOff rest [x, dx, stk]) (hb : vs.length ≤ 1000 ∧ 0 ≤ size ∧ size ≤ 200) :
   Says w loose mean mg mb 604 [.ref x, .int size ts] 1 16 (thrL w.params kt x dx stk top tt frs up vs n rest) (fun r news' => ∃ n', r = .none ∧
     news' = thrL w.params kt x dx stk top tt frs up (grown vs size) n' rest ∧ ((grown vs size).length : Int) = max (vs.length : Int) size) := by
  unfold Says
  k_fill
  intro dp un gd cn cs a ccd cl outer A₀ base h₀ L m s Q E B F X N T hk hd hu hret
  obtain ⟨hne1, hne2, hne3⟩ := hne
  obtain ⟨hlen, h0, hsz⟩ := hb
  refine wpAny_call ?_
  k_dflt (k_extra "nt_enter")
  k_extra "nt_steps"
  · exact hret _ (thrL w.params kt x dx stk top tt frs up (grown vs size) _ rest) _ _ (by k_asm) (nt_sub (by k_asm) (by k_extra "nt_sub")) ⟨_, rfl, rfl, grown_length _ _ h0⟩
  · have e : grown vs size = vs := by
      unfold grown
      rw [show (size - vs.length).toNat = 0 by omega]
      simp
    exact hret _ (thrL w.params kt x dx stk top tt frs up vs _ rest) _ _ (by k_asm) (nt_sub (by k_asm) (by k_extra "nt_sub")) ⟨_, rfl, by rw [e], grown_length _ _ h0⟩
end NtMine

end
-- NtPush
section
open PySem PySem.W PySem.Calls PyProof.Rows
set_option Elab.async false
namespace NtMine
set_option pp.deepTerms false
set_option pp.maxSteps 3000
theorem lines_12 (P : Params) : (PySem.Challenge.rw_nt0650_01, hd.heap_39 P).1 = PySem.Challenge.rw_nt0650_01 := by
  k_fill
  k_with "nt_use" => (( (case k1 => first | k_asm | fail "nt_use: below"); (case k2 => first | k_asm | fail "nt_use: frame"); (case k3 => first | k_asm | fail "nt_use: part"); (case k5 => first | k_asm | fail "nt_use: top"); (case k6 => first | exact rfl | assumption | fail "nt_use: kind"); (case k7 => first | exact room1 (by with_reducible assumption) rfl | exact room2 (by with_reducible assumption) rfl | ktr_room | fail "nt_use: room"); (case k8 => first | exact room1 (by with_reducible assumption) rfl | exact room2 (by with_reducible assumption) rfl | ktr_units | fail "nt_use: units")))
  k_with "nt_led3" => ((refine' nt_pick3 ?nNh52g1 ?n1h52g1 ?n2h52g1 ?n3h52g1; (case nNh52g1 => k_asm); (case n1h52g1 => k_extra "nt_pick"); (case n2h52g1 => k_extra "nt_pick"); (case n3h52g1 => k_extra "nt_pick")))
  k_with "call ref" => ((k_here; (with_reducible show wpAny _ _ (call (Value.ref 604) _) _ _ _); k_dflt (refine' says_useZ (grow_says ?kneh53g1 ?koffh53g1 ?kbh53g1) ?k1 ?k2 ?k3 ?k4h53g1 ?k5 ?k6 ?k7 ?k8 (cps1 fun n' hgl' => ?_); (case k4h53g1 => k_extra "nt_led3"); k_extra "nt_use"; (case kneh53g1 => k_extra "nt_nes"); (case koffh53g1 => k_extra "nt_off"); (case kbh53g1 => k_extra "nt_fit"); k_whole); intro h' tk' F' N'; (try dsimp only); (try k_sweep); (try k_fold)))
  rfl

set_option maxRecDepth 100000 in
set_option maxHeartbeats 8000000 in
theorem push_says {w : World} {loose : List Str} {mean : ExcName → Option Value} {mg mb : Str → Option Value} {kt : Nat → Tok} {x dx stk : Addr} {top : Int} {tt : Tok} {frs up : Addr} {vs : List Value} {n : Nat} {rest : Led} {v : Value}
   (hne : NeA x dx ∧ NeA x stk ∧ NeA dx stk) (hoff : OwnOff rest [x, dx, stk]) (hb : vs.length ≤ 900 ∧ 0 ≤ top ∧ top ≤ vs.length ∧ top ≤ 190) :
   Says w loose mean mg mb 611 [.ref x, v] 2 24 (thrL w.params kt x dx stk top tt frs up vs n rest) (fun r news' => ∃ n' tt', r = .none ∧
     news' = thrL w.params kt x dx stk (top + 1) tt' frs up ((grown vs (top + 1)).set top.toNat v) n' rest) := by
  unfold Says
  k_fill
  intro dp un gd cn cs a ccd cl outer A₀ base h₀ L m s Q E B F X N T hk hd hu hret
  obtain ⟨hne1, hne2, hne3⟩ := hne
  obtain ⟨hlen, h0, h1, h2⟩ := hb
  refine wpAny_call ?_
  k_dflt (k_extra "nt_enter")
  k_extra "nt_steps"
  · exact hret _ (thrL w.params kt x dx stk (top + 1) _ frs up ((grown vs (top + 1)).set top.toNat v) _ rest) _ _ (by k_asm) (nt_sub (by k_asm) (by k_extra "nt_sub")) ⟨_, _, rfl, rfl⟩
  · have e : grown vs (top + 1) = vs := by
      unfold grown
      rw [show (top + 1 - vs.length).toNat = 0 by omega]
      simp
    exact hret _ (thrL w.params kt x dx stk (top + 1) _ frs up (vs.set top.toNat v) _ rest) _ _ (by k_asm) (nt_sub (by k_asm) (by k_extra "nt_sub")) ⟨_, _, rfl, by rw [e]⟩
end NtMine

end
-- NtSlice
section
open PySem PySem.W PySem.Calls PyProof.Rows
set_option Elab.async false
namespace NtMine
set_option maxRecDepth 100000
theorem clip0 {x : Int} {n : Nat} (h : 0 ≤ x) : max 0 (min x (n : Int)) = ((min x.toNat n : Nat) : Int) := by
  obtain ⟨i, rfl⟩ := Int.eq_ofNat_of_zero_le h
  rw [Int.toNat_natCast]
  rcases Nat.le_total i n with k | k
  · rw [Nat.min_eq_left k, Int.min_eq_left (Int.ofNat_le.mpr k)]
    exact Int.max_eq_right (Int.natCast_nonneg _)
  · rw [Nat.min_eq_right k, Int.min_eq_right (Int.ofNat_le.mpr k)]
    exact Int.max_eq_right (Int.natCast_nonneg _)
theorem pick_upto (vs : List Value) {y : Int} (h : 0 ≤ y) : slicePick vs.toArray none (some y) none = (vs.take y.toNat).toArray := by
  have e : sliceBounds none (some y) none vs.toArray.size = (((0 : Nat) : Int), ((min y.toNat vs.toArray.size : Nat) : Int), 1) := by
    simp only [sliceBounds, Option.getD_none, show (1 : Int) > 0 by decide, if_true, if_neg (Int.not_lt.mpr h)]
    rw [clip0 h]
    rfl
  rw [kmk_pick_nat _ e]
  show ((vs.drop 0).take (min y.toNat vs.toArray.size - 0)).toArray = _
  rw [List.drop_zero, Nat.sub_zero, List.size_toArray, kmk_take_min]
theorem pick_from (vs : List Value) {x : Int} (h : 0 ≤ x) : slicePick vs.toArray (some x) none none = (vs.drop x.toNat).toArray := by
  have e : sliceBounds (some x) none none vs.toArray.size = (((min x.toNat vs.toArray.size : Nat) : Int), ((vs.toArray.size : Nat) : Int), 1) := by
    simp only [sliceBounds, Option.getD_none, show (1 : Int) > 0 by decide, if_true, if_neg (Int.not_lt.mpr h)]
    rw [clip0 h]
  rw [kmk_pick_nat _ e]
  show ((vs.drop (min x.toNat vs.toArray.size)).take (vs.toArray.size - min x.toNat vs.toArray.size)).toArray = _
  rw [List.size_toArray, List.take_of_length_le (Nat.le_of_eq List.length_drop), kmk_drop_min]
theorem pick_run (vs : List Value) {x y : Int} (h : 0 ≤ x) (h2 : 0 ≤ y) : slicePick vs.toArray (some x) (some y) none = ((vs.take y.toNat).drop x.toNat).toArray := by
  have e : sliceBounds (some x) (some y) none vs.toArray.size = (((min x.toNat vs.toArray.size : Nat) : Int), ((min y.toNat vs.toArray.size : Nat) : Int), 1) := by
    simp only [sliceBounds, Option.getD_none, show (1 : Int) > 0 by decide, if_true, if_neg (Int.not_lt.mpr h), if_neg (Int.not_lt.mpr h2)]
    rw [clip0 h, clip0 h2]
  rw [kmk_pick_nat _ e]
  show ((vs.drop (min x.toNat vs.toArray.size)).take (min y.toNat vs.toArray.size - min x.toNat vs.toArray.size)).toArray = _
  rw [List.size_toArray]
  congr 1
  rcases Nat.le_total x.toNat vs.length with hx | hx
  · rw [Nat.min_eq_left hx, List.drop_take, ← Nat.sub_min_sub_right, ← List.length_drop, kmk_take_min]
  · rw [kmk_drop_min, List.drop_eq_nil_of_le hx, List.take_nil, List.drop_eq_nil_of_le (Nat.le_trans (List.length_take_le' ..) hx)]
section
variable {prog : Program} {w : World} {A : Around} {E : Value → Shared → Prop} {s : Shared} {h₀ : Heap} {L D b : Addr} {m : Str → Option Value} {news news' : Led} {vs ws : List Value} {n n2 : Nat}
theorem nt_slice {value slice : Expr} {vl vu : Value} {lo hi : Option Int} {Q : Value → Shared → Prop} (F : Fr h₀ L s.heap m) (N : News h₀ L s.heap news) (hm : (D, listOf vs.toArray n) ∈ news) (pl : IsPart vl lo) (pu : IsPart vu hi) (e : slicePick vs.toArray lo hi none = ws.toArray) (hb : vs.length ≤ 100000)
    (h : ∀ B h', Fr h₀ L h' m → News h₀ L h' ((B, listOf ws.toArray 0) :: news) → (∀ p ∈ news, p.1 < B) → Q (.ref B) { s with heap := h' })
    (hs : subscripted slice false (.ref D) (.ref s.heap.objs.size) = operate [.ref s.heap.objs.size, .ref D] (getItem (.ref D) (.ref s.heap.objs.size))) (ht : ∀ r, letTemporaryGo value (.ref D) r = pure ()) :
    wpAny (model prog w) A (subscriptTail value slice (.ref D) (.ref s.heap.objs.size)) Q E { s with heap := s.heap.push { cls := .type "slice", data := .fields #[vl, vu, .none] } } :=
  kmk_slice F N ⟨_, (N _ hm).1, rfl, n, rfl⟩ pl pu (fun B h' F' N' l1 => h B h' F' (by rw [← e]; exact N') l1) hs ht (by rw [List.size_toArray]; exact room_of hb)
end
theorem lines_13 (P : Params) : (PySem.Challenge.rw_nt0650_01, hd.heap_39 P).1 = PySem.Challenge.rw_nt0650_01 := by
  k_fill
  k_with "nt_pickE" => (first | ((with_reducible refine' pick_run _ ?pkah54g1 ?pkbh54g1); (case pkah54g1 => k_extra "nt_fit"); (case pkbh54g1 => k_extra "nt_fit")) | ((with_reducible refine' pick_upto _ ?pkah54g2); (case pkah54g2 => k_extra "nt_fit")) | ((with_reducible refine' pick_from _ ?pkah54g3); (case pkah54g3 => k_extra "nt_fit")) | fail "nt_pickE")
  k_with "subscriptTail" => ((k_here; (with_reducible show wpAny _ _ (subscriptTail _ (PySem.Expr.Slice _ _ none _) (Value.ref _) (Value.ref _)) _ _ _); k_dflt (refine' nt_slice ?Fh55g1 ?Nh55g1 ?mh55g1 ?ph55g1 ?qh55g1 ?eh55g1 ?zh55g1 ?_ ?sh55g1 ?th55g1; (case Fh55g1 => k_asm); (case Nh55g1 => k_asm); (case mh55g1 => k_extra "nt_mem"); (case ph55g1 => kmk_part); (case qh55g1 => kmk_part); (case eh55g1 => k_extra "nt_pickE"); (case sh55g1 => with_unfolding_all rfl); (case th55g1 => kmk_pure); (case zh55g1 => k_extra "nt_fit"); k_whole); intro D' h' F' N' l1; (try k_lt l1); (try k_sweep)))
  k_with "subscriptTail Name Slice ref ref" => ((k_here; (with_reducible show wpAny _ _ (subscriptTail _ (PySem.Expr.Slice _ _ none _) (Value.ref _) (Value.ref _)) _ _ _); k_dflt (refine' nt_slice ?Fh56g1 ?Nh56g1 ?mh56g1 ?ph56g1 ?qh56g1 ?eh56g1 ?zh56g1 ?_ ?sh56g1 ?th56g1; (case Fh56g1 => k_asm); (case Nh56g1 => k_asm); (case mh56g1 => k_extra "nt_mem"); (case ph56g1 => kmk_part); (case qh56g1 => kmk_part); (case eh56g1 => k_extra "nt_pickE"); (case sh56g1 => with_unfolding_all rfl); (case th56g1 => kmk_pure); (case zh56g1 => k_extra "nt_fit"); k_whole); intro D' h' F' N' l1; (try k_lt l1); (try k_sweep)))
  k_with "subscriptTail Attribute Name Slice ref ref" => ((k_here; (with_reducible show wpAny _ _ (subscriptTail _ (PySem.Expr.Slice _ _ none _) (Value.ref _) (Value.ref _)) _ _ _); k_dflt (refine' nt_slice ?Fh57g1 ?Nh57g1 ?mh57g1 ?ph57g1 ?qh57g1 ?eh57g1 ?zh57g1 ?_ ?sh57g1 ?th57g1; (case Fh57g1 => k_asm); (case Nh57g1 => k_asm); (case mh57g1 => k_extra "nt_mem"); (case ph57g1 => kmk_part); (case qh57g1 => kmk_part); (case eh57g1 => k_extra "nt_pickE"); (case sh57g1 => with_unfolding_all rfl); (case th57g1 => kmk_pure); (case zh57g1 => k_extra "nt_fit"); k_whole); intro D' h' F' N' l1; (try k_lt l1); (try k_sweep)))
  k_with "subscriptTail Attribute" => ((k_here; (with_reducible show wpAny _ _ (subscriptTail _ (PySem.Expr.Slice _ _ none _) (Value.ref _) (Value.ref _)) _ _ _); k_dflt (refine' nt_slice ?Fh58g1 ?Nh58g1 ?mh58g1 ?ph58g1 ?qh58g1 ?eh58g1 ?zh58g1 ?_ ?sh58g1 ?th58g1; (case Fh58g1 => k_asm); (case Nh58g1 => k_asm); (case mh58g1 => k_extra "nt_mem"); (case ph58g1 => kmk_part); (case qh58g1 => kmk_part); (case eh58g1 => k_extra "nt_pickE"); (case sh58g1 => with_unfolding_all rfl); (case th58g1 => kmk_pure); (case zh58g1 => k_extra "nt_fit"); k_whole); intro D' h' F' N' l1; (try k_lt l1); (try k_sweep)))
  rfl

end NtMine

end
-- NtFrame
section
open PySem PySem.W PySem.Calls PyProof.Rows
set_option Elab.async false
namespace NtMine
set_option pp.deepTerms false
set_option pp.maxSteps 3000
noncomputable abbrev Quad := Int × Int × Int × Int
noncomputable abbrev infT (P : Params) (t0 t1 t2 t3 t4 t5 t6 t7 t8 t9 t10 t11 t12 : Tok) (a b c d : Int) : Obj :=
  dictOf [ent P "func" t0 (.int a t1), ent P "base" t2 (.int b t3), ent P "top" t4 (.int c t5), ent P "wanted" t6 (.int d t7), ent P "pc" t8 (.int 0 t9), ent P "tails" t10 (.int 0 t11), ent P "is_fresh" t12 (.bool false)] 7
noncomputable abbrev infD (P : Params) (k : Nat → Tok) (q : Quad) : Obj := infT P (k 0) (k 1) (k 2) (k 3) (k 4) (k 5) (k 6) (k 7) (k 8) (k 9) (k 10) (k 11) (k 12) q.1 q.2.1 q.2.2.1 q.2.2.2
theorem inf_tok (P : Params) (t0 t1 t2 t3 t4 t5 t6 t7 t8 t9 t10 t11 t12 : Tok) (a b c d : Int) : ∃ k, infT P t0 t1 t2 t3 t4 t5 t6 t7 t8 t9 t10 t11 t12 a b c d = infD P k (a, b, c, d) :=
  ⟨fun i => [t0, t1, t2, t3, t4, t5, t6, t7, t8, t9, t10, t11, t12].getD i 0, rfl⟩
set_option maxRecDepth 100000 in
set_option maxHeartbeats 8000000 in
theorem push_frame_says {w : World} {loose : List Str} {mean : ExcName → Option Value} {mg mb : Str → Option Value} {kt : Nat → Tok} {x dx stk : Addr} {top : Int} {tt : Tok} {frs up : Addr} {vs fvs : List Value} {n nf : Nat} {rest : Led} {qa qb qc qd : Int} {ta tb tc td : Tok}
   (hne : NeA x dx ∧ NeA x stk ∧ NeA dx stk ∧ NeA frs x ∧ NeA frs dx ∧ NeA frs stk) (hoff : OwnOff rest [x, dx, stk, frs]) (hb : vs.length ≤ 900 ∧ 0 ≤ qc ∧ qc ≤ 190 ∧ fvs.length ≤ 900) :
   Says w loose mean mg mb 653 [.ref x, .int qa ta, .int qb tb, .int qc tc, .int qd td] 3 32 (thrL w.params kt x dx stk top tt frs up vs n ((frs, listOf fvs.toArray nf) :: rest)) (fun r news' => ∃ n' a d t0 t1 t2 t3 t4 t5 t6 t7 t8 t9 t10 t11 t12, r = .ref a ∧
     news' = thrL w.params kt x dx stk top tt frs up (grown vs qc) n' ((frs, listOf (fvs ++ [Value.ref a]).toArray (nf + 1)) :: (a, instObj 556 d) :: (d, infT w.params t0 t1 t2 t3 t4 t5 t6 t7 t8 t9 t10 t11 t12 qa qb qc qd) :: rest) ∧ @LT.lt Nat _ x d ∧ @LT.lt Nat _ dx d ∧ @LT.lt Nat _ stk d ∧ @LT.lt Nat _ frs d ∧ AllLt d rest ∧ @LT.lt Nat _ d a) := by
  unfold Says
  k_fill
  intro dp un gd cn cs a ccd cl outer A₀ base h₀ L m s Q E B F X N T hk hd hu hret
  obtain ⟨hne1, hne2, hne3, hne4, hne5, hne6⟩ := hne
  obtain ⟨hlen, h0, h1, h2⟩ := hb
  refine wpAny_call ?_
  k_dflt (k_extra "nt_enter")
  k_extra "nt_steps"
  rename (_ ∧ _ ∧ _ ∧ _ ∧ AllLt _ rest) => hl1
  refine hret _ (thrL w.params kt x dx stk top tt frs up (grown vs qc) _ ((frs, listOf (fvs ++ [Value.ref _]).toArray _) :: (_, instObj 556 _) :: (_, infT w.params _ _ _ _ _ _ _ _ _ _ _ _ _ qa qb qc qd) :: rest)) _ _ (by k_asm) (nt_sub (by k_asm) (by k_extra "nt_sub")) ⟨_, _, _, _, _, _, _, _, _, _, _, _, _, _, _, _, rfl, rfl, hl1.1, hl1.2.1, hl1.2.2.1, hl1.2.2.2.1, hl1.2.2.2.2, by first | assumption | omega⟩
end NtMine

end
-- NtShrink
section
open PySem PySem.W PySem.Calls PyProof.Rows
set_option Elab.async false
namespace NtMine
set_option pp.deepTerms false
set_option pp.maxSteps 3000
/-- a frame stands on the ledger -/
noncomputable def FrIs (P : Params) (fam : Led) (v : Value) (q : Quad) : Prop := ∃ (a d : Addr) (k : Nat → Tok), v = Value.ref a ∧ (a, instObj 556 d) ∈ fam ∧ (d, infD P k q) ∈ fam
structure FrAll (P : Params) (fam : Led) (fvs : List Value) (qs : List Quad) : Prop where
  len : fvs.length = qs.length
  at' : ∀ (i : Nat) (v : Value) (q : Quad), fvs[i]? = some v → qs[i]? = some q → FrIs P fam v q
noncomputable def usedOf (top : Int) (qs : List Quad) : Int := qs.foldl (fun u q => max u q.2.2.1) top
set_option maxRecDepth 100000 in
set_option maxHeartbeats 8000000 in
theorem shrink_says {w : World} {loose : List Str} {mean : ExcName → Option Value} {mg mb : Str → Option Value} {kt : Nat → Tok} {x dx stk : Addr} {top : Int} {tt : Tok} {frs up : Addr} {vs fvs : List Value} {n nf : Nat} {rest : Led} {qs : List Quad}
   (hne : NeA x dx ∧ NeA x stk ∧ NeA dx stk ∧ NeA frs x ∧ NeA frs dx ∧ NeA frs stk) (hoff : OwnOff rest [x, dx, stk, frs]) (hb : vs.length ≤ 900 ∧ 0 ≤ top ∧ fvs.length ≤ 900) (hq : FrAll w.params rest fvs qs) (hu : 0 ≤ usedOf top qs ∧ usedOf top qs ≤ 900) :
   Says w loose mean mg mb 674 [.ref x] 2 24 (thrL w.params kt x dx stk top tt frs up vs n ((frs, listOf fvs.toArray nf) :: rest)) (fun r news' => ∃ n' stk', r = .none ∧
     news' = thrL w.params kt x dx stk' top tt frs up (if (vs.length : Int) > 2 * usedOf top qs + 20 then vs.take (usedOf top qs + 20).toNat else vs) n' ((frs, listOf fvs.toArray nf) :: rest) ∧ NeA x stk' ∧ NeA dx stk' ∧ NeA frs stk' ∧ OwnOff rest [stk']) := by
  unfold Says
  k_fill
  intro dp un gd cn cs a ccd cl outer A₀ base h₀ L m s Q E B F X N T hk hd hun hret
  obtain ⟨hne1, hne2, hne3, hne4, hne5, hne6⟩ := hne
  obtain ⟨hlen, h0, h1⟩ := hb
  obtain ⟨hu1, hu2⟩ := hu
  refine wpAny_call ?_
  k_dflt (k_extra "nt_enter")
  k_extra "nt_steps"
  refine Park.out ?_
  unfold Park
  rename Fr _ _ _ _ => F₁
  rename News _ _ _ _ => N₁
  k_dflt (refine nt_list1 (y := Str.ofString "used") (vs := fvs) (nn := nf) (u₀ := .int top tt) (fun i u nx => (∃ t, u = .int (usedOf top (qs.take i)) t) ∧ nx = thrL w.params kt x dx stk top tt frs up vs n ((frs, listOf fvs.toArray nf) :: rest)) rfl ?ra F₁ N₁ ?ry ⟨⟨tt, rfl⟩, rfl⟩ ?rl ?rt ?rd)
  case ra => k_mem
  case ry => exact rfl
  case rl =>
    rintro i u nx ⟨_, rfl⟩
    k_mem
  case rt =>
    rintro i v u news₁ h tk' I o hv ho ⟨⟨t, rfl⟩, rfl⟩ F' N'
    have hI1 : NeA I x := ho _ (.head _) _ (.head _)
    have hI2 : NeA I dx := ho _ (.head _) _ (.tail _ (.head _))
    have hI3 : NeA I stk := ho _ (.head _) _ (.tail _ (.tail _ (.head _)))
    obtain ⟨hi, _⟩ := List.getElem?_eq_some_iff.mp hv
    have hil : i < qs.length := by rw [← hq.len]; exact hi
    have hiq : qs[i]? = some qs[i] := List.getElem?_eq_getElem hil
    obtain ⟨fa, fd, fk, rfl, hm1, hm2⟩ := hq.at' i v _ hv hiq
    have hst : usedOf top (qs.take (i + 1)) = max (usedOf top (qs.take i)) (qs[i]).2.2.1 := by
      unfold usedOf
      rw [List.take_add_one, hiq, List.foldl_append]
      rfl
    clear F₁ N₁
    k_extra "nt_steps"
    refine nt_invEnd (nx := thrL w.params kt x dx stk top tt frs up vs n ((frs, listOf fvs.toArray nf) :: rest)) (by k_asm) (nt_sub (by k_asm) (by k_extra "nt_sub")) ⟨by k_same2, _, rfl, ktn_int (by rw [hst]; omega), rfl⟩ ho
  case rd =>
    rintro wz u news₁ h tk' ⟨⟨t, rfl⟩, rfl⟩ F' N'
    have e : qs.take fvs.length = qs := by rw [hq.len]; exact List.take_length
    rw [e] at F'
    clear F₁ N₁
    k_extra "nt_steps"
    · have hc : (vs.length : Int) > 2 * usedOf top qs + 20 := by omega
      rename (_ ∧ _ ∧ _ ∧ _ ∧ AllLt _ rest) => hl1
      refine hret _ (thrL w.params kt x dx _ top tt frs up (vs.take (usedOf top qs + 20).toNat) _ ((frs, listOf fvs.toArray nf) :: rest)) _ _ (by k_asm) (nt_sub (by k_asm) (by k_extra "nt_sub")) ⟨_, _, rfl, by rw [if_pos hc], Nat.ne_of_lt hl1.1, Nat.ne_of_lt hl1.2.1, Nat.ne_of_lt hl1.2.2.2.1, off_lt hl1.2.2.2.2⟩
    · have hc : ¬ (vs.length : Int) > 2 * usedOf top qs + 20 := by omega
      refine hret _ (thrL w.params kt x dx stk top tt frs up vs _ ((frs, listOf fvs.toArray nf) :: rest)) _ _ (by k_asm) (nt_sub (by k_asm) (by k_extra "nt_sub")) ⟨_, _, rfl, by rw [if_neg hc], hne2, hne3, hne6, off_sub hoff (by intro b hb; rw [List.mem_singleton.mp hb]; simp)⟩
end NtMine

end
-- NtSetTop
section
open PySem PySem.W PySem.Calls PyProof.Rows
set_option Elab.async false
namespace NtMine
set_option pp.deepTerms false
set_option pp.maxSteps 3000
theorem min_iteG (a b : Int) : (if b < a then b else a) = min a b := by
  split
  · next h => exact (Int.min_eq_right (Int.le_of_lt h)).symm
  · next h => exact (Int.min_eq_left (Int.not_lt.mp h)).symm
theorem max_iteG (a b : Int) : (if b > a then b else a) = max a b := by
  split
  · next h => exact (Int.max_eq_right (Int.le_of_lt h)).symm
  · next h => exact (Int.max_eq_left (Int.not_lt.mp h)).symm
theorem toNat_at {a : Int} {i : Nat} (h : 0 ≤ a) : (((a + (i : Int) * 1).toNat : Nat) : Int) = a + i := by
  rw [Int.mul_one, Int.toNat_of_nonneg (Int.add_nonneg h (Int.natCast_nonneg _))]
set_option maxRecDepth 100000 in
set_option maxHeartbeats 8000000 in
theorem set_top_says {w : World} {loose : List Str} {mean : ExcName → Option Value} {mg mb : Str → Option Value} {kt : Nat → Tok} {x dx stk : Addr} {top : Int} {tt : Tok} {frs up : Addr} {vs : List Value} {n : Nat} {rest : Led} {g : Int} {tg : Tok}
   (hne : NeA x dx ∧ NeA x stk ∧ NeA dx stk) (hoff : OwnOff rest [x, dx, stk]) (hb : vs.length ≤ 900 ∧ 0 ≤ top ∧ top ≤ vs.length ∧ top ≤ 190 ∧ 0 ≤ g ∧ g ≤ 190) :
   Says w loose mean mg mb 625 [.ref x, .int g tg] 2 24 (thrL w.params kt x dx stk top tt frs up vs n rest) (fun r news' => ∃ n' tt' vs', r = .none ∧
     news' = thrL w.params kt x dx stk g tt' frs up vs' n' rest ∧ vs'.length = (grown vs g).length ∧ ∀ j : Nat, vs'[j]? = if min g top ≤ (j : Int) ∧ (j : Int) < max g top then ((grown vs g)[j]?).map fun _ => .none else (grown vs g)[j]?) := by
  unfold Says
  k_fill
  intro dp un gd cn cs a ccd cl outer A₀ base h₀ L m s Q E B F X N T hk hd hu hret
  obtain ⟨hne1, hne2, hne3⟩ := hne
  obtain ⟨hlen, h0, h1, h2, h3, h4⟩ := hb
  refine wpAny_call ?_
  k_dflt (k_extra "nt_enter")
  k_extra "nt_steps"
  refine Park.out ?_
  unfold Park
  generalize ha : (if top < g then top else g) = a₁ at *
  generalize hb₁ : (if top > g then top else g) = b₁ at *
  generalize hb₂ : (if ((grown vs g).length : Int) < b₁ then ((grown vs g).length : Int) else b₁) = b₂ at *
  rename IsRange _ _ _ _ _ _ _ _ => rg
  rename Fr _ _ _ _ => F₁
  rename News _ _ _ _ => N₁
  rename (_ = max _ _) => hgg
  clear hgg
  have hmin : a₁ = min g top := ha.symm.trans (min_iteG g top)
  have hmax : b₁ = max g top := hb₁.symm.trans (max_iteG g top)
  have hgl : b₁ ≤ ((grown vs g).length : Int) := by
    rw [grown_length vs g h3, hmax]
    exact Int.max_le.mpr ⟨Int.le_max_right .., Int.le_trans h1 (Int.le_max_left ..)⟩
  have hg9 : ((grown vs g).length : Int) ≤ 900 := by
    rw [grown_length vs g h3]
    exact Int.max_le.mpr ⟨Int.ofNat_le.mpr hlen, Int.le_trans h4 (by decide)⟩
  have hlt : b₂ = b₁ := hb₂.symm.trans (if_neg (Int.not_lt.mpr hgl))
  have ha0 : 0 ≤ a₁ := hmin ▸ Int.le_min.mpr ⟨h3, h0⟩
  have hb190 : b₁ ≤ 190 := hmax ▸ Int.max_le.mpr ⟨h4, h2⟩
  have hab : a₁ ≤ b₁ := by rw [hmin, hmax]; exact Int.le_trans (Int.min_le_left ..) (Int.le_max_left ..)
  clear ha hb₁ hb₂
  subst b₂
  rw [← hmin, ← hmax] at hret
  clear hmin hmax h0 h1 h2 h3 h4
  k_dflt (refine nt_range0 (n := (b₁ - a₁).toNat) (fun i nx => ∃ n' vs', nx = thrL w.params kt x dx stk top tt frs up vs' n' rest ∧ vs'.length = (grown vs g).length ∧
    ∀ j : Nat, vs'[j]? = if a₁ ≤ (j : Int) ∧ (j : Int) < a₁ + i then ((grown vs g)[j]?).map fun _ => .none else (grown vs g)[j]?) rfl rg ?ra ?rz F₁ (nt_sub N₁ (by k_extra "nt_sub")) ⟨_, _, rfl, rfl, ?rj⟩ ?rt ?rd)
  case ra => exact small_one (by omega) (by omega) (by omega) (by omega)
  case rz => exact rangeSize_nat _ _
  case rj =>
    intro j
    rw [if_neg (by omega)]
  case rt =>
    rintro i t news₁ h tk' I o hi ho ⟨n', vs', rfl, hl', hj⟩ F' N'
    have hI1 : NeA I x := ho _ (.head _) _ (.head _)
    have hI2 : NeA I dx := ho _ (.head _) _ (.tail _ (.head _))
    have hI3 : NeA I stk := ho _ (.head _) _ (.tail _ (.tail _ (.head _)))
    clear F₁ N₁ rg
    have hi' : (i : Int) < b₁ - a₁ := by omega
    have eN := toNat_at (i := i) ha0
    clear hi
    k_extra "nt_steps"
    refine nt_invEnd (nx := thrL w.params kt x dx stk top tt frs up (vs'.set (a₁ + (i : Int) * 1).toNat .none) _ rest) (by k_asm) (nt_sub (by k_asm) (by k_extra "nt_sub")) ⟨fun z hz => if_neg hz, _, _, rfl, by rw [List.length_set]; exact hl', ?_⟩ ho
    intro j
    rw [List.getElem?_set, hj]
    generalize (a₁ + (i : Int) * 1).toNat = p at eN ⊢
    by_cases hjj : p = j
    · have hlt' : j < (grown vs g).length := by omega
      rw [if_pos hjj, if_pos (by omega), if_pos (by omega), List.getElem?_eq_getElem hlt']
      rfl
    · rw [if_neg hjj]
      by_cases hc : a₁ ≤ (j : Int) ∧ (j : Int) < a₁ + i
      · rw [if_pos hc, if_pos (by omega)]
      · rw [if_neg hc, if_neg (by omega)]
  case rd =>
    rintro u news₁ h tk' ⟨n', vs', rfl, hl', hj⟩ F' N'
    clear F₁ N₁ rg
    k_extra "nt_steps"
    refine hret _ (thrL w.params kt x dx stk g _ frs up vs' _ rest) _ _ (by k_asm) (nt_sub (by k_asm) (by k_extra "nt_sub")) ⟨_, _, _, rfl, rfl, hl', ?_⟩
    intro j
    rw [hj]
    by_cases hc : a₁ ≤ (j : Int) ∧ (j : Int) < a₁ + ((b₁ - a₁).toNat : Nat)
    · rw [if_pos hc, if_pos (by omega)]
    · rw [if_neg hc, if_neg (by omega)]
end NtMine

end
-- NtInsert
section
open PySem PySem.W PySem.Calls PyProof.Rows
set_option Elab.async false
namespace NtMine
set_option pp.deepTerms false
set_option pp.maxSteps 3000
theorem toNat_dn {a : Int} {i : Nat} (h : (i : Int) ≤ a) : (((a + (i : Int) * (-1)).toNat : Nat) : Int) = a - i := by
  rw [Int.mul_neg, Int.mul_one, ← Int.sub_eq_add_neg, Int.toNat_of_nonneg (Int.sub_nonneg_of_le h)]
theorem toNat_dn1 {a : Int} {i : Nat} (h : (i : Int) + 1 ≤ a) : (((a + (i : Int) * (-1) - 1).toNat : Nat) : Int) = a - i - 1 := by
  rw [Int.mul_neg, Int.mul_one, ← Int.sub_eq_add_neg, Int.toNat_of_nonneg (by omega)]
set_option maxRecDepth 100000 in
set_option maxHeartbeats 8000000 in
theorem insert_says {w : World} {loose : List Str} {mean : ExcName → Option Value} {mg mb : Str → Option Value} {kt : Nat → Tok} {x dx stk : Addr} {top : Int} {tt : Tok} {frs up : Addr} {vs : List Value} {n : Nat} {rest : Led} {g : Int} {tg : Tok} {v : Value}
   (hne : NeA x dx ∧ NeA x stk ∧ NeA dx stk) (hoff : OwnOff rest [x, dx, stk]) (hb : vs.length ≤ 900 ∧ 0 ≤ g ∧ g ≤ top ∧ top ≤ vs.length ∧ top ≤ 190) :
   Says w loose mean mg mb 639 [.ref x, .int g tg, v] 2 24 (thrL w.params kt x dx stk top tt frs up vs n rest) (fun r news' => ∃ n' tt' vs', r = .none ∧
     news' = thrL w.params kt x dx stk (top + 1) tt' frs up vs' n' rest ∧ vs'.length = (grown vs (top + 1)).length ∧ ∀ j : Nat, vs'[j]? = if (j : Int) = g then some v else if g < (j : Int) ∧ (j : Int) ≤ top then (grown vs (top + 1))[j - 1]? else (grown vs (top + 1))[j]?) := by
  unfold Says
  k_fill
  intro dp un gd cn cs a ccd cl outer A₀ base h₀ L m s Q E B F X N T hk hd hu hret
  obtain ⟨hne1, hne2, hne3⟩ := hne
  obtain ⟨hlen, h0, h1, h2, h3⟩ := hb
  refine wpAny_call ?_
  k_dflt (k_extra "nt_enter")
  k_extra "nt_steps"
  refine Park.out ?_
  unfold Park
  rename IsRange _ _ _ _ _ _ _ _ => rg
  rename Fr _ _ _ _ => F₁
  rename News _ _ _ _ => N₁
  have hgl : top + 1 ≤ ((grown vs (top + 1)).length : Int) := by
    rw [grown_length _ _ (Int.add_nonneg (Int.le_trans h0 h1) (by decide))]
    exact Int.le_max_right ..
  have hg9 : ((grown vs (top + 1)).length : Int) ≤ 900 := by
    rw [grown_length _ _ (Int.add_nonneg (Int.le_trans h0 h1) (by decide))]
    exact Int.max_le.mpr ⟨Int.ofNat_le.mpr hlen, by omega⟩
  rename (_ = max _ _) => hgg
  clear hgg hlen h2
  k_dflt (refine nt_range0 (n := (top - g).toNat) (fun i nx => ∃ n' vs', nx = thrL w.params kt x dx stk top tt frs up vs' n' rest ∧ vs'.length = (grown vs (top + 1)).length ∧
    ∀ j : Nat, vs'[j]? = if top - i < (j : Int) ∧ (j : Int) ≤ top then (grown vs (top + 1))[j - 1]? else (grown vs (top + 1))[j]?) rfl rg ?ra ?rz F₁ (nt_sub N₁ (by k_extra "nt_sub")) ⟨_, _, rfl, rfl, ?rj⟩ ?rt ?rd)
  case ra => exact small_down (by omega) (by omega) (by omega) (by omega)
  case rz => exact rangeSize_downNat _ _
  case rj =>
    intro j
    rw [if_neg (by omega)]
  case rt =>
    rintro i t news₁ h tk' I o hi ho ⟨n', vs', rfl, hl', hj⟩ F' N'
    have hI1 : NeA I x := ho _ (.head _) _ (.head _)
    have hI2 : NeA I dx := ho _ (.head _) _ (.tail _ (.head _))
    have hI3 : NeA I stk := ho _ (.head _) _ (.tail _ (.tail _ (.head _)))
    clear F₁ N₁ rg
    have hi' : (i : Int) < top - g := by omega
    have eN := toNat_dn (a := top) (i := i) (by omega)
    have eN1 := toNat_dn1 (a := top) (i := i) (by omega)
    clear hi
    k_extra "nt_steps"
    rename (vs'[_]? = some _) => hv'
    refine nt_invEnd (nx := thrL w.params kt x dx stk top tt frs up (vs'.set (top + (i : Int) * (-1)).toNat _) _ rest) (by k_asm) (nt_sub (by k_asm) (by k_extra "nt_sub")) ⟨fun z hz => if_neg hz, _, _, rfl, by rw [List.length_set]; exact hl', ?_⟩ ho
    intro j
    rw [List.getElem?_set, hj]
    generalize (top + (i : Int) * (-1)).toNat = p at eN ⊢
    generalize (top + (i : Int) * (-1) - 1).toNat = q at eN1 hv'
    by_cases hjj : p = j
    · have hlt' : j < vs'.length := by omega
      rw [if_pos hjj, if_pos (by omega), if_pos (by omega), ← hv', hj, if_neg (by omega)]
      congr 1
      omega
    · rw [if_neg hjj]
      by_cases hc : top - i < (j : Int) ∧ (j : Int) ≤ top
      · rw [if_pos hc, if_pos (by omega)]
      · rw [if_neg hc, if_neg (by omega)]
  case rd =>
    rintro u news₁ h tk' ⟨n', vs', rfl, hl', hj⟩ F' N'
    clear F₁ N₁ rg
    k_extra "nt_steps"
    refine hret _ (thrL w.params kt x dx stk (top + 1) _ frs up (vs'.set g.toNat v) _ rest) _ _ (by k_asm) (nt_sub (by k_asm) (by k_extra "nt_sub")) ⟨_, _, _, rfl, rfl, by rw [List.length_set]; exact hl', ?_⟩
    intro j
    rw [List.getElem?_set, hj]
    have eT : ((g.toNat : Nat) : Int) = g := Int.toNat_of_nonneg h0
    generalize g.toNat = p at eT ⊢
    by_cases hg : (j : Int) = g
    · have hlt' : j < vs'.length := by omega
      rw [if_pos (by omega), if_pos (by omega), if_pos hg]
    · rw [if_neg (by omega), if_neg hg]
      by_cases hc : g < (j : Int) ∧ (j : Int) ≤ top
      · rw [if_pos hc, if_pos (by omega)]
      · rw [if_neg hc, if_neg (by omega)]
end NtMine

end
-- NtRemove
section
open PySem PySem.W PySem.Calls PyProof.Rows
set_option Elab.async false
namespace NtMine
set_option pp.deepTerms false
set_option pp.maxSteps 3000
theorem toNat_up {a : Int} {i : Nat} (h : 0 ≤ a) : (((a + (i : Int) * 1).toNat : Nat) : Int) = a + i := by
  rw [Int.mul_one, Int.toNat_of_nonneg (Int.add_nonneg h (Int.natCast_nonneg _))]
theorem toNat_up1 {a : Int} {i : Nat} (h : 0 ≤ a) : (((a + (i : Int) * 1 + 1).toNat : Nat) : Int) = a + i + 1 := by
  rw [Int.mul_one, Int.toNat_of_nonneg (Int.add_nonneg (Int.add_nonneg h (Int.natCast_nonneg _)) (by decide))]
set_option maxRecDepth 100000 in
set_option maxHeartbeats 8000000 in
theorem remove_says {w : World} {loose : List Str} {mean : ExcName → Option Value} {mg mb : Str → Option Value} {kt : Nat → Tok} {x dx stk : Addr} {top : Int} {tt : Tok} {frs up : Addr} {vs : List Value} {n : Nat} {rest : Led} {g : Int} {tg : Tok}
   (hne : NeA x dx ∧ NeA x stk ∧ NeA dx stk) (hoff : OwnOff rest [x, dx, stk]) (hb : vs.length ≤ 900 ∧ 0 ≤ g ∧ g < top ∧ top ≤ vs.length) :
   Says w loose mean mg mb 646 [.ref x, .int g tg] 2 24 (thrL w.params kt x dx stk top tt frs up vs n rest) (fun r news' => ∃ n' tt' vs', r = .none ∧
     news' = thrL w.params kt x dx stk (top - 1) tt' frs up vs' n' rest ∧ vs'.length = vs.length ∧ ∀ j : Nat, vs'[j]? = if (j : Int) = top - 1 then some .none else if g ≤ (j : Int) ∧ (j : Int) < top - 1 then vs[j + 1]? else vs[j]?) := by
  unfold Says
  k_fill
  intro dp un gd cn cs a ccd cl outer A₀ base h₀ L m s Q E B F X N T hk hd hu hret
  obtain ⟨hne1, hne2, hne3⟩ := hne
  obtain ⟨hlen, h0, h1, h2⟩ := hb
  refine wpAny_call ?_
  k_dflt (k_extra "nt_enter")
  k_extra "nt_steps"
  refine Park.out ?_
  unfold Park
  rename IsRange _ _ _ _ _ _ _ _ => rg
  rename Fr _ _ _ _ => F₁
  rename News _ _ _ _ => N₁
  k_dflt (refine nt_range0 (n := (top - 1 - g).toNat) (fun i nx => ∃ n' vs', nx = thrL w.params kt x dx stk top tt frs up vs' n' rest ∧ vs'.length = vs.length ∧
    ∀ j : Nat, vs'[j]? = if g ≤ (j : Int) ∧ (j : Int) < g + i then vs[j + 1]? else vs[j]?) rfl rg ?ra ?rz F₁ (nt_sub N₁ (by k_extra "nt_sub")) ⟨_, _, rfl, rfl, ?rj⟩ ?rt ?rd)
  case ra => exact small_one (by omega) (by omega) (by omega) (by omega)
  case rz => exact rangeSize_nat _ _
  case rj =>
    intro j
    rw [if_neg (by omega)]
  case rt =>
    rintro i t news₁ h tk' I o hi ho ⟨n', vs', rfl, hl', hj⟩ F' N'
    have hI1 : NeA I x := ho _ (.head _) _ (.head _)
    have hI2 : NeA I dx := ho _ (.head _) _ (.tail _ (.head _))
    have hI3 : NeA I stk := ho _ (.head _) _ (.tail _ (.tail _ (.head _)))
    clear F₁ N₁ rg
    have hi' : (i : Int) < top - 1 - g := by omega
    have eN := toNat_up (i := i) h0
    have eN1 := toNat_up1 (i := i) h0
    clear hi
    k_extra "nt_steps"
    rename (vs'[_]? = some _) => hv'
    refine nt_invEnd (nx := thrL w.params kt x dx stk top tt frs up (vs'.set (g + (i : Int) * 1).toNat _) _ rest) (by k_asm) (nt_sub (by k_asm) (by k_extra "nt_sub")) ⟨fun z hz => if_neg hz, _, _, rfl, by rw [List.length_set]; exact hl', ?_⟩ ho
    intro j
    rw [List.getElem?_set, hj]
    generalize (g + (i : Int) * 1).toNat = p at eN ⊢
    generalize (g + (i : Int) * 1 + 1).toNat = q at eN1 hv'
    by_cases hjj : p = j
    · have hlt' : j < vs'.length := by omega
      rw [if_pos hjj, if_pos (by omega), if_pos (by omega), ← hv', hj, if_neg (by omega)]
      congr 1
      omega
    · rw [if_neg hjj]
      by_cases hc : g ≤ (j : Int) ∧ (j : Int) < g + i
      · rw [if_pos hc, if_pos (by omega)]
      · rw [if_neg hc, if_neg (by omega)]
  case rd =>
    rintro u news₁ h tk' ⟨n', vs', rfl, hl', hj⟩ F' N'
    clear F₁ N₁ rg
    k_extra "nt_steps"
    refine hret _ (thrL w.params kt x dx stk (top - 1) _ frs up (vs'.set (top - 1).toNat .none) _ rest) _ _ (by k_asm) (nt_sub (by k_asm) (by k_extra "nt_sub")) ⟨_, _, _, rfl, rfl, by rw [List.length_set]; exact hl', ?_⟩
    intro j
    rw [List.getElem?_set, hj]
    have eT : (((top - 1).toNat : Nat) : Int) = top - 1 := Int.toNat_of_nonneg (by omega)
    generalize (top - 1).toNat = p at eT ⊢
    by_cases hg : (j : Int) = top - 1
    · have hlt' : j < vs'.length := by omega
      rw [if_pos (by omega), if_pos (by omega), if_pos hg]
    · rw [if_neg (by omega), if_neg hg]
      by_cases hc : g ≤ (j : Int) ∧ (j : Int) < top - 1
      · rw [if_pos hc, if_pos (by omega)]
      · rw [if_neg hc, if_neg (by omega)]

set_option maxRecDepth 100000 in
set_option maxHeartbeats 8000000 in
theorem pop_says {w : World} {loose : List Str} {mean : ExcName → Option Value} {mg mb : Str → Option Value} {kt : Nat → Tok} {x dx stk : Addr} {top : Int} {tt : Tok} {frs up : Addr} {vs : List Value} {n : Nat} {rest : Led}
   (hne : NeA x dx ∧ NeA x stk ∧ NeA dx stk) (hoff : OwnOff rest [x, dx, stk]) (hb : vs.length ≤ 900 ∧ 0 < top ∧ top ≤ vs.length) :
   Says w loose mean mg mb 618 [.ref x] 2 24 (thrL w.params kt x dx stk top tt frs up vs n rest) (fun r news' => ∃ n' tt', vs[(top - 1).toNat]? = some r ∧
     news' = thrL w.params kt x dx stk (top - 1) tt' frs up (vs.set (top - 1).toNat .none) n' rest) := by
  unfold Says
  k_fill
  intro dp un gd cn cs a ccd cl outer A₀ base h₀ L m s Q E B F X N T hk hd hu hret
  obtain ⟨hne1, hne2, hne3⟩ := hne
  obtain ⟨hlen, h0, h1⟩ := hb
  refine wpAny_call ?_
  k_dflt (k_extra "nt_enter")
  k_extra "nt_steps"
  rename (vs[_]? = some _) => hv'
  exact hret _ (thrL w.params kt x dx stk (top - 1) _ frs up (vs.set (top - 1).toNat .none) _ rest) _ _ (by k_asm) (nt_sub (by k_asm) (by k_extra "nt_sub")) ⟨_, _, hv', rfl⟩
end NtMine

end
-- NtUse
section
open PySem PySem.W PySem.Calls PyProof.Rows
set_option Elab.async false
namespace NtMine
noncomputable def TopSet (vs' vs : List Value) (top g : Int) : Prop := vs'.length = (grown vs g).length ∧ ∀ j : Nat, vs'[j]? = if min g top ≤ (j : Int) ∧ (j : Int) < max g top then ((grown vs g)[j]?).map fun _ => .none else (grown vs g)[j]?
noncomputable def Inserted (vs' vs : List Value) (top g : Int) (v : Value) : Prop := vs'.length = (grown vs (top + 1)).length ∧ ∀ j : Nat, vs'[j]? = if (j : Int) = g then some v else if g < (j : Int) ∧ (j : Int) ≤ top then (grown vs (top + 1))[j - 1]? else (grown vs (top + 1))[j]?
noncomputable def Removed (vs' vs : List Value) (top g : Int) : Prop := vs'.length = vs.length ∧ ∀ j : Nat, vs'[j]? = if (j : Int) = top - 1 then some .none else if g ≤ (j : Int) ∧ (j : Int) < top - 1 then vs[j + 1]? else vs[j]?
theorem lines_14 (P : Params) : (PySem.Challenge.rw_nt0650_01, hd.heap_39 P).1 = PySem.Challenge.rw_nt0650_01 := by
  k_fill
  k_with "nt_led4" => ((refine' nt_pick4 ?nNh59g1 ?n1h59g1 ?n2h59g1 ?n3h59g1 ?n4h59g1; (case nNh59g1 => k_asm); (case n1h59g1 => k_extra "nt_pick"); (case n2h59g1 => k_extra "nt_pick"); (case n3h59g1 => k_extra "nt_pick"); (case n4h59g1 => k_extra "nt_pick")))
  k_with "nt_rest" => (((try dsimp only); (try k_sweep); (try k_fold)))
  k_with "call ref" => ((k_here; (with_reducible show wpAny _ _ (call (Value.ref 611) _) _ _ _); k_dflt (refine' says_useZ (push_says ?kneh61g1 ?koffh61g1 ?kbh61g1) ?k1 ?k2 ?k3 ?k4h61g1 ?k5 ?k6 ?k7 ?k8 (cps2 fun n' tt' => ?_); (case k4h61g1 => k_extra "nt_led3"); k_extra "nt_use"; (case kneh61g1 => k_extra "nt_nes"); (case koffh61g1 => k_extra "nt_off"); (case kbh61g1 => k_extra "nt_fit"); k_whole); intro h' tk' F' N'; k_extra "nt_rest"))
  k_with "call ref" => ((k_here; (with_reducible show wpAny _ _ (call (Value.ref 618) _) _ _ _); k_dflt (refine' says_useZ (pop_says ?kneh62g1 ?koffh62g1 ?kbh62g1) ?k1 ?k2 ?k3 ?k4h62g1 ?k5 ?k6 ?k7 ?k8 (cps2P fun n' tt' r' hr' => ?_); (case k4h62g1 => k_extra "nt_led3"); k_extra "nt_use"; (case kneh62g1 => k_extra "nt_nes"); (case koffh62g1 => k_extra "nt_off"); (case kbh62g1 => k_extra "nt_fit"); k_whole); intro h' tk' F' N'; k_extra "nt_rest"))
  k_with "call ref" => ((k_here; (with_reducible show wpAny _ _ (call (Value.ref 625) _) _ _ _); k_dflt (refine' says_useZ (set_top_says ?kneh63g1 ?koffh63g1 ?kbh63g1) ?k1 ?k2 ?k3 ?k4h63g1 ?k5 ?k6 ?k7 ?k8 (cps3S fun n' tt' vs' hS' => ?_); (case k4h63g1 => k_extra "nt_led3"); k_extra "nt_use"; (case kneh63g1 => k_extra "nt_nes"); (case koffh63g1 => k_extra "nt_off"); (case kbh63g1 => k_extra "nt_fit"); k_whole); intro h' tk' F' N'; k_dflt (have hJ' : TopSet vs' _ _ _ := hS'); clear hS'; k_extra "nt_rest"))
  k_with "call ref" => ((k_here; (with_reducible show wpAny _ _ (call (Value.ref 639) _) _ _ _); k_dflt (refine' says_useZ (insert_says ?kneh64g1 ?koffh64g1 ?kbh64g1) ?k1 ?k2 ?k3 ?k4h64g1 ?k5 ?k6 ?k7 ?k8 (cps3S fun n' tt' vs' hS' => ?_); (case k4h64g1 => k_extra "nt_led3"); k_extra "nt_use"; (case kneh64g1 => k_extra "nt_nes"); (case koffh64g1 => k_extra "nt_off"); (case kbh64g1 => k_extra "nt_fit"); k_whole); intro h' tk' F' N'; k_dflt (have hJ' : Inserted vs' _ _ _ _ := hS'); clear hS'; k_extra "nt_rest"))
  k_with "call ref" => ((k_here; (with_reducible show wpAny _ _ (call (Value.ref 646) _) _ _ _); k_dflt (refine' says_useZ (remove_says ?kneh65g1 ?koffh65g1 ?kbh65g1) ?k1 ?k2 ?k3 ?k4h65g1 ?k5 ?k6 ?k7 ?k8 (cps3S fun n' tt' vs' hS' => ?_); (case k4h65g1 => k_extra "nt_led3"); k_extra "nt_use"; (case kneh65g1 => k_extra "nt_nes"); (case koffh65g1 => k_extra "nt_off"); (case kbh65g1 => k_extra "nt_fit"); k_whole); intro h' tk' F' N'; k_dflt (have hJ' : Removed vs' _ _ _ := hS'); clear hS'; k_extra "nt_rest"))
  k_with "call ref" => ((k_here; (with_reducible show wpAny _ _ (call (Value.ref 653) _) _ _ _); k_dflt (refine' says_useZ (push_frame_says ?kneh66g1 ?koffh66g1 ?kbh66g1) ?k1 ?k2 ?k3 ?k4h66g1 ?k5 ?k6 ?k7 ?k8 (cps16 fun n' a' d' t0 t1 t2 t3 t4 t5 t6 t7 t8 t9 t10 t11 t12 hS' => ?_); (case k4h66g1 => k_extra "nt_led4"); k_extra "nt_use"; (case kneh66g1 => k_extra "nt_nes"); (case koffh66g1 => k_extra "nt_off"); (case kbh66g1 => k_extra "nt_fit"); k_whole); intro h' tk' F' N'; have l1 := hS'.1; have l2 := hS'.2.1; have l3 := hS'.2.2.1; have l4 := hS'.2.2.2.1; have l5 := hS'.2.2.2.2.1; have l6 := hS'.2.2.2.2.2; clear hS'; (try simp only [AllLt] at l5); k_extra "nt_rest"))
  k_with "call ref" => ((k_here; (with_reducible show wpAny _ _ (call (Value.ref 674) _) _ _ _); k_dflt (refine' says_useZ (shrink_says ?kneh67g1 ?koffh67g1 ?kbh67g1 ?kqh67g1 ?kuh67g1) ?k1 ?k2 ?k3 ?k4h67g1 ?k5 ?k6 ?k7 ?k8 (cps2S fun n' stk' hS' => ?_); (case k4h67g1 => k_extra "nt_led4"); k_extra "nt_use"; (case kqh67g1 => k_extra "nt_frall"); (case kneh67g1 => k_extra "nt_nes"); (case koffh67g1 => k_extra "nt_off"); (case kbh67g1 => k_extra "nt_fit"); (case kuh67g1 => k_extra "nt_fit"); k_whole); intro h' tk' F' N'; have l1 := hS'.1; have l2 := hS'.2.1; have l3 := hS'.2.2.1; have l4 := hS'.2.2.2; clear hS'; k_extra "nt_rest"))
  rfl

end NtMine

end
-- NtInv
section
open PySem PySem.W PySem.Calls PyProof.Rows
set_option Elab.async false
namespace NtMine
/-- a tuple of four ints stands on the ledger -/
noncomputable def QdIs (fam : Led) (v : Value) (q : Quad) : Prop := ∃ (a : Addr) (t1 t2 t3 t4 : Tok) (n : Nat), v = Value.ref a ∧ (a, ({ cls := .type "tuple", data := .seq [Value.int q.1 t1, .int q.2.1 t2, .int q.2.2.1 t3, .int q.2.2.2 t4].toArray n } : Obj)) ∈ fam
structure QdAll (fam : Led) (cvs : List Value) (qs : List Quad) : Prop where
  len : cvs.length = qs.length
  at' : ∀ (i : Nat) (v : Value) (q : Quad), cvs[i]? = some v → qs[i]? = some q → QdIs fam v q
noncomputable def IsV (d : Dat) : Prop := d = .none ∨ ∃ i, d = .int i
/-- a list of values bears data, `none` beyond -/
structure StkIs (vs : List Value) (xs : List Dat) (room : Int) : Prop where
  len : (vs.length : Int) = room
  le : xs.length ≤ vs.length
  at' : ∀ (j : Nat) (v : Value), vs[j]? = some v → DatIn [] v (xs.getD j .none)
structure Good (k : Nat) (xs : List Dat) (qs : List Quad) (room : Int) : Prop where
  isv : ∀ d ∈ xs, IsV d
  size : xs.length ≤ k
  room : 20 ≤ room ∧ room ≤ 100
  many : qs.length ≤ k
  tops : ∀ q ∈ qs, 0 ≤ q.2.2.1 ∧ q.2.2.1 < 60
structure Apart (x dx stk frs mi ca : Addr) : Prop where
  h1 : NeA x dx
  h2 : NeA x stk
  h3 : NeA dx stk
  h4 : NeA frs x
  h5 : NeA frs dx
  h6 : NeA frs stk
  h7 : NeA mi x
  h8 : NeA mi dx
  h9 : NeA mi stk
  h10 : NeA mi frs
  h11 : NeA ca x
  h12 : NeA ca dx
  h13 : NeA ca stk
  h14 : NeA ca frs
  h15 : NeA ca mi
noncomputable abbrev lawL (P : Params) (kt : Nat → Tok) (x dx stk : Addr) (top : Int) (tt : Tok) (frs up : Addr) (vs : List Value) (n : Nat) (fvs : List Value) (nf : Nat) (mi : Addr) (ms : List Value) (nm : Nat) (ca : Addr) (cvs : List Value) (nc : Nat) (rest : Led) : Led :=
  thrL P kt x dx stk top tt frs up vs n ((frs, listOf fvs.toArray nf) :: (mi, listOf ms.toArray nm) :: (ca, listOf cvs.toArray nc) :: rest)
/-- what stands between two deeds -/
noncomputable def Inv (P : Params) (kt : Nat → Tok) (x dx frs up mi ca : Addr) (rest₀ : Led) (k : Nat) (room : Int) (l : Led) : Prop :=
  ∃ (stk : Addr) (tt : Tok) (vs : List Value) (n : Nat) (fvs : List Value) (nf : Nat) (ms : List Value) (nm : Nat) (cvs : List Value) (nc : Nat) (rest : Led) (xs : List Dat) (qs : List Quad),
    l = lawL P kt x dx stk (xs.length : Int) tt frs up vs n fvs nf mi ms nm ca cvs nc rest ∧ Apart x dx stk frs mi ca ∧ OwnOff rest [x, dx, stk, frs, mi, ca] ∧ (∀ p ∈ rest₀, p ∈ rest) ∧
    StkIs vs xs room ∧ DatAll [] ms xs ∧ FrAll P rest fvs qs ∧ QdAll rest cvs qs ∧ Good k xs qs room
end NtMine

end
-- NtPure
section
open PySem PySem.W PySem.Calls PyProof.Rows
set_option Elab.async false
namespace NtMine
theorem StkIs.cast {vs : List Value} {xs : List Dat} {r r' : Int} (h : StkIs vs xs r) (e : r = r') : StkIs vs xs r' := e ▸ h
theorem grown_at {vs : List Value} {k : Int} {j : Nat} {v : Value} (h : (grown vs k)[j]? = some v) : vs[j]? = some v ∨ v = .none ∧ vs.length ≤ j := by
  unfold grown at h
  rw [List.getElem?_append] at h
  split at h
  · exact .inl h
  · rw [List.getElem?_replicate] at h
    split at h
    · exact .inr ⟨(Option.some.inj h).symm, by omega⟩
    · cases h
theorem getD_out {xs : List Dat} {j : Nat} (h : xs.length ≤ j) : xs.getD j .none = .none := by
  rw [List.getD_eq_getElem?_getD, List.getElem?_eq_none h]
  rfl
theorem StkIs.grow {vs : List Value} {xs : List Dat} {r k : Int} (h : StkIs vs xs r) (hk : 0 ≤ k) : StkIs (grown vs k) xs (max r k) := by
  have hl := grown_length vs k hk
  have h1 := h.len
  have h2 := h.le
  refine ⟨by rw [hl, h1], by omega, fun j v hv => ?_⟩
  rcases grown_at hv with hv | ⟨rfl, hj⟩
  · exact h.at' j v hv
  · rw [getD_out (by omega)]
    exact .none
theorem StkIs.push {vs : List Value} {xs : List Dat} {r : Int} {v : Value} {d : Dat} (h : StkIs vs xs r) (hd : DatIn [] v d) : StkIs ((grown vs ((xs.length : Int) + 1)).set (xs.length : Int).toNat v) (xs ++ [d]) (max r ((xs.length : Int) + 1)) := by
  have nn : (0 : Int) ≤ (xs.length : Int) + 1 := Int.add_nonneg (Int.natCast_nonneg _) (by decide)
  have g := h.grow nn
  have h1 := g.len
  have hL : xs.length + 1 ≤ (grown vs ((xs.length : Int) + 1)).length := Int.ofNat_le.mp (by rw [grown_length _ _ nn]; exact Int.le_max_right ..)
  rw [Int.toNat_natCast]
  refine ⟨by rw [List.length_set, h1], by rw [List.length_set, List.length_append, List.length_singleton]; exact hL, fun j u hu => ?_⟩
  rw [List.getElem?_set] at hu
  by_cases e : xs.length = j
  · rw [if_pos e] at hu
    split at hu
    · cases hu
      have : (xs ++ [d]).getD j .none = d := by
        rw [List.getD_eq_getElem?_getD, List.getElem?_append_right (Nat.le_of_eq e), e, Nat.sub_self]
        rfl
      rw [this]
      exact hd
    · cases hu
  · rw [if_neg e] at hu
    have q := g.at' j u hu
    have : (xs ++ [d]).getD j .none = xs.getD j .none := by
      rw [List.getD_eq_getElem?_getD, List.getD_eq_getElem?_getD]
      rcases Nat.lt_or_ge j xs.length with hj | hj
      · rw [List.getElem?_append_left hj]
      · have hj' : xs.length + 1 ≤ j := Nat.lt_of_le_of_ne hj e
        rw [List.getElem?_eq_none hj, List.getElem?_eq_none (by rw [List.length_append, List.length_singleton]; exact hj')]
    rw [this]
    exact q
theorem StkIs.pop {vs : List Value} {xs : List Dat} {r : Int} (h : StkIs vs xs r) (h0 : 0 < xs.length) : StkIs (vs.set ((xs.length : Int) - 1).toNat .none) xs.dropLast r := by
  have h1 := h.len
  have h2 := h.le
  refine ⟨by rw [List.length_set, h1], by rw [List.length_set, List.length_dropLast]; omega, fun j u hu => ?_⟩
  rw [List.getElem?_set] at hu
  by_cases e : ((xs.length : Int) - 1).toNat = j
  · rw [if_pos e] at hu
    split at hu
    · have hu' := Option.some.inj hu
      subst hu'
      rw [getD_out (by rw [List.length_dropLast]; omega)]
      exact .none
    · cases hu
  · rw [if_neg e] at hu
    have q := h.at' j u hu
    have : xs.dropLast.getD j .none = xs.getD j .none := by
      rw [List.getD_eq_getElem?_getD, List.getD_eq_getElem?_getD, List.getElem?_dropLast]
      split
      · rfl
      · rw [List.getElem?_eq_none (by omega)]
    rw [this]
    exact q
theorem StkIs.insert {vs vs' : List Value} {xs : List Dat} {r g : Int} {v : Value} {d : Dat} (h : StkIs vs xs r) (hd : DatIn [] v d) (hg : 0 ≤ g ∧ g ≤ (xs.length : Int)) (hl : vs'.length = (grown vs ((xs.length : Int) + 1)).length)
    (hj : ∀ j : Nat, vs'[j]? = if (j : Int) = g then some v else if g < (j : Int) ∧ (j : Int) ≤ (xs.length : Int) then (grown vs ((xs.length : Int) + 1))[j - 1]? else (grown vs ((xs.length : Int) + 1))[j]?) :
    StkIs vs' (xs.take g.toNat ++ d :: xs.drop g.toNat) (max r ((xs.length : Int) + 1)) := by
  obtain ⟨p, rfl⟩ := Int.eq_ofNat_of_zero_le hg.1
  have hp : p ≤ xs.length := Int.ofNat_le.mp hg.2
  have nn : (0 : Int) ≤ (xs.length : Int) + 1 := Int.add_nonneg (Int.natCast_nonneg _) (by decide)
  have q := h.grow nn
  have h1 := q.len
  have hL : xs.length + 1 ≤ (grown vs ((xs.length : Int) + 1)).length := Int.ofNat_le.mp (by rw [grown_length _ _ nn]; exact Int.le_max_right ..)
  have tl : (xs.take p).length = p := by rw [List.length_take, Nat.min_eq_left hp]
  rw [Int.toNat_natCast]
  refine ⟨by rw [hl, h1], ?_, fun j u hu => ?_⟩
  · rw [List.length_append, List.length_cons, tl, List.length_drop, hl, ← Nat.add_assoc, Nat.add_sub_of_le hp]
    exact hL
  · rw [hj] at hu
    rcases Nat.lt_trichotomy j p with e | e | e
    · rw [if_neg (fun z => Nat.ne_of_lt e (Int.ofNat_inj.mp z)), if_neg (fun z => Nat.lt_asymm e (Int.ofNat_lt.mp z.1))] at hu
      have get : (xs.take p ++ d :: xs.drop p).getD j .none = xs.getD j .none := by
        rw [List.getD_eq_getElem?_getD, List.getD_eq_getElem?_getD, List.getElem?_append_left (tl.symm ▸ e), List.getElem?_take, if_pos e]
      rw [get]
      exact q.at' _ u hu
    · subst e
      rw [if_pos rfl] at hu
      cases hu
      have get : (xs.take j ++ d :: xs.drop j).getD j .none = d := by
        rw [List.getD_eq_getElem?_getD, List.getElem?_append_right (Nat.le_of_eq tl), tl, Nat.sub_self]
        rfl
      rw [get]
      exact hd
    · obtain ⟨t, rfl⟩ := Nat.exists_eq_add_of_lt e
      rw [if_neg (fun z => Nat.ne_of_gt e (Int.ofNat_inj.mp z))] at hu
      have get : (xs.take p ++ d :: xs.drop p).getD (p + t + 1) .none = xs.getD (p + t) .none := by
        rw [List.getD_eq_getElem?_getD, List.getD_eq_getElem?_getD, List.getElem?_append_right (by rw [tl]; exact Nat.le_of_lt e), tl, Nat.add_assoc p t 1, Nat.add_sub_cancel_left, List.getElem?_cons_succ, List.getElem?_drop]
      rw [get]
      by_cases e3 : p + t + 1 ≤ xs.length
      · rw [if_pos ⟨Int.ofNat_lt.mpr e, Int.ofNat_le.mpr e3⟩] at hu
        exact q.at' _ u hu
      · rw [if_neg (fun z => e3 (Int.ofNat_le.mp z.2))] at hu
        have z := q.at' _ u hu
        have e4 : xs.length ≤ p + t := Nat.le_of_lt_succ (Nat.not_le.mp e3)
        rw [getD_out (Nat.le_succ_of_le e4)] at z
        rw [getD_out e4]
        exact z
theorem StkIs.remove {vs vs' : List Value} {xs : List Dat} {r g : Int} (h : StkIs vs xs r) (hg : 0 ≤ g ∧ g < (xs.length : Int)) (hl : vs'.length = vs.length)
    (hj : ∀ j : Nat, vs'[j]? = if (j : Int) = (xs.length : Int) - 1 then some .none else if g ≤ (j : Int) ∧ (j : Int) < (xs.length : Int) - 1 then vs[j + 1]? else vs[j]?) :
    StkIs vs' (xs.eraseIdx g.toNat) r := by
  have h1 := h.len
  have h2 := h.le
  have he : (xs.eraseIdx g.toNat).length = xs.length - 1 := by rw [List.length_eraseIdx, if_pos (by omega)]
  refine ⟨by rw [hl, h1], by omega, fun j u hu => ?_⟩
  rw [hj] at hu
  by_cases e : (j : Int) = (xs.length : Int) - 1
  · rw [if_pos e] at hu
    have hu' := Option.some.inj hu
    subst hu'
    rw [getD_out (by omega)]
    exact .none
  · rw [if_neg e] at hu
    have get : (xs.eraseIdx g.toNat).getD j .none = if j < g.toNat then xs.getD j .none else xs.getD (j + 1) .none := by
      rw [List.getD_eq_getElem?_getD, List.getElem?_eraseIdx]
      split <;> rw [List.getD_eq_getElem?_getD]
    rw [get]
    by_cases e2 : g ≤ (j : Int) ∧ (j : Int) < (xs.length : Int) - 1
    · rw [if_pos e2] at hu
      rw [if_neg (by omega)]
      exact h.at' _ u hu
    · rw [if_neg e2] at hu
      by_cases e3 : j < g.toNat
      · rw [if_pos e3]
        exact h.at' _ u hu
      · rw [if_neg e3]
        have z := h.at' _ u hu
        rw [getD_out (by omega)] at z
        rw [getD_out (by omega)]
        exact z
theorem StkIs.setTop {vs vs' : List Value} {xs : List Dat} {r g : Int} (h : StkIs vs xs r) (hg : 0 ≤ g) (hl : vs'.length = (grown vs g).length)
    (hj : ∀ j : Nat, vs'[j]? = if min g (xs.length : Int) ≤ (j : Int) ∧ (j : Int) < max g (xs.length : Int) then ((grown vs g)[j]?).map fun _ => .none else (grown vs g)[j]?) :
    StkIs vs' (xs.take g.toNat ++ List.replicate (g.toNat - xs.length) Dat.none) (max r g) := by
  obtain ⟨p, rfl⟩ := Int.eq_ofNat_of_zero_le hg
  have q := h.grow hg
  have h1 := q.len
  have hpL : p ≤ (grown vs (p : Int)).length := Int.ofNat_le.mp (by rw [grown_length _ _ hg]; exact Int.le_max_right ..)
  rw [Int.toNat_natCast]
  refine ⟨by rw [hl, h1], ?_, fun j u hu => ?_⟩
  · rw [List.length_append, List.length_take, List.length_replicate, hl]
    rcases Nat.le_total p xs.length with e | e
    · rw [Nat.min_eq_left e, Nat.sub_eq_zero_of_le e]
      exact hpL
    · rw [Nat.min_eq_right e, Nat.add_sub_of_le e]
      exact hpL
  · rw [hj] at hu
    have get : (xs.take p ++ List.replicate (p - xs.length) Dat.none).getD j .none = if j < p then xs.getD j .none else Dat.none := by
      rw [List.getD_eq_getElem?_getD, List.getD_eq_getElem?_getD, List.getElem?_append, List.length_take]
      by_cases a : j < min p xs.length
      · have a1 : j < p := Nat.lt_of_lt_of_le a (Nat.min_le_left ..)
        rw [if_pos a, if_pos a1, List.getElem?_take, if_pos a1]
      · rw [if_neg a, List.getElem?_replicate]
        by_cases b : j < p
        · rw [if_pos b, List.getElem?_eq_none (Nat.le_of_not_lt fun z => a (Nat.lt_min.mpr ⟨b, z⟩))]
          split <;> rfl
        · rw [if_neg b, if_neg (Nat.not_lt.mpr (Nat.le_trans (Nat.sub_le_sub_right (Nat.le_of_not_lt b) _) (Nat.sub_le_sub_left (Nat.min_le_right ..) _)))]
          rfl
    rw [get]
    by_cases c : min (p : Int) (xs.length : Int) ≤ (j : Int) ∧ (j : Int) < max (p : Int) (xs.length : Int)
    · rw [if_pos c] at hu
      have hu' : u = .none := by
        cases hh : (grown vs (p : Int))[j]? with
        | none => rw [hh] at hu; cases hu
        | some z => rw [hh] at hu; exact (Option.some.inj hu).symm
      subst hu'
      by_cases b : j < p
      · rw [if_pos b, getD_out (Nat.le_of_not_lt fun z => absurd c.1 (Int.not_le.mpr (Int.lt_min.mpr ⟨Int.ofNat_lt.mpr b, Int.ofNat_lt.mpr z⟩)))]
        exact .none
      · rw [if_neg b]
        exact .none
    · rw [if_neg c] at hu
      have z := q.at' j u hu
      by_cases b : j < p
      · rw [if_pos b]
        exact z
      · rw [if_neg b]
        rw [getD_out (Nat.le_of_not_lt fun z => c ⟨Int.le_trans (Int.min_le_left ..) (Int.ofNat_le.mpr (Nat.le_of_not_lt b)), Int.lt_of_lt_of_le (Int.ofNat_lt.mpr z) (Int.le_max_right ..)⟩)] at z
        exact z
theorem datAll_of {l : Led} : ∀ {vs : List Value} {ds : List Dat}, vs.length = ds.length → (∀ (i : Nat) v d, vs[i]? = some v → ds[i]? = some d → DatIn l v d) → DatAll l vs ds
  | [], [], _, _ => .nil
  | v :: vs, d :: ds, e, h => .cons (h 0 v d rfl rfl) (datAll_of (by simpa using e) fun i v d a b => h (i + 1) v d a b)
theorem datAll_at {l : Led} : ∀ {vs : List Value} {ds : List Dat}, DatAll l vs ds → ∀ {i : Nat} {v : Value} {d : Dat}, vs[i]? = some v → ds[i]? = some d → DatIn l v d := by
  intro vs
  induction vs with
  | nil => intro _ _ i _ _ a; rw [List.getElem?_nil] at a; cases a
  | cons x r ih =>
    intro ds h i v d a b
    cases h with
    | cons h1 h2 =>
      cases i with
      | zero => cases a; cases b; exact h1
      | succ i => exact ih h2 (i := i) a b
theorem datAll_take {l : Led} {vs : List Value} {ds : List Dat} (h : DatAll l vs ds) (k : Nat) : DatAll l (vs.take k) (ds.take k) := by
  have e := h.length
  refine datAll_of (by rw [List.length_take, List.length_take, e]) fun i v d a b => ?_
  rw [List.getElem?_take] at a b
  split at a
  · rename_i hi
    rw [if_pos hi] at b
    exact datAll_at h a b
  · cases a
theorem datAll_drop {l : Led} {vs : List Value} {ds : List Dat} (h : DatAll l vs ds) (k : Nat) : DatAll l (vs.drop k) (ds.drop k) := by
  have e := h.length
  refine datAll_of (by rw [List.length_drop, List.length_drop, e]) fun i v d a b => ?_
  rw [List.getElem?_drop] at a b
  exact datAll_at h a b
theorem datAll_last {l : Led} {vs : List Value} {ds : List Dat} (h : DatAll l vs ds) : DatAll l vs.dropLast ds.dropLast := by
  rw [List.dropLast_eq_take, List.dropLast_eq_take, h.length]
  exact datAll_take h _
theorem datAll_insert {l : Led} {vs : List Value} {ds : List Dat} {v : Value} {d : Dat} (h : DatAll l vs ds) (hd : DatIn l v d) (k : Nat) : DatAll l (vs.take k ++ v :: vs.drop k) (ds.take k ++ d :: ds.drop k) :=
  (datAll_take h k).append (.cons hd (datAll_drop h k))
theorem datAll_erase {l : Led} {vs : List Value} {ds : List Dat} (h : DatAll l vs ds) (k : Nat) : DatAll l (vs.eraseIdx k) (ds.eraseIdx k) := by
  rw [List.eraseIdx_eq_take_drop_succ, List.eraseIdx_eq_take_drop_succ]
  exact (datAll_take h k).append (datAll_drop h (k + 1))
theorem datAll_none {l : Led} : ∀ k : Nat, DatAll l (List.replicate k Value.none) (List.replicate k Dat.none)
  | 0 => .nil
  | k + 1 => .cons .none (datAll_none k)
theorem usedOf_ge (qs : List Quad) : ∀ t : Int, t ≤ usedOf t qs := by
  induction qs with
  | nil => intro t; exact Int.le_refl t
  | cons q r ih =>
    intro t
    have := ih (max t q.2.2.1)
    show t ≤ usedOf (max t q.2.2.1) r
    omega
theorem usedOf_le (qs : List Quad) : ∀ (t b : Int), t ≤ b → (∀ q ∈ qs, q.2.2.1 ≤ b) → usedOf t qs ≤ b := by
  induction qs with
  | nil => intro t b h _; exact h
  | cons q r ih =>
    intro t b h hq
    exact ih (max t q.2.2.1) b (by have := hq q (.head _); omega) fun p hp => hq p (.tail _ hp)
/-- the stack up to the top as data -/
theorem StkIs.upto {vs : List Value} {xs : List Dat} {r : Int} (h : StkIs vs xs r) : DatAll [] (vs.take xs.length) xs := by
  have h2 := h.le
  refine datAll_of (by rw [List.length_take]; omega) fun i v d a b => ?_
  have hi : i < xs.length := (List.getElem?_eq_some_iff.mp b).1
  rw [List.getElem?_take, if_pos hi] at a
  have q := h.at' i v a
  rw [List.getD_eq_getElem?_getD, b] at q
  exact q
/-- and beyond it: nothing -/
theorem StkIs.beyond {vs : List Value} {xs : List Dat} {r : Int} (h : StkIs vs xs r) : ∀ v ∈ vs.drop xs.length, v = .none := by
  intro v hv
  obtain ⟨i, hi⟩ := List.mem_iff_getElem?.mp hv
  rw [List.getElem?_drop] at hi
  have q := h.at' _ v hi
  rw [getD_out (by omega)] at q
  cases q
  rfl
theorem StkIs.shrink {vs : List Value} {xs : List Dat} {r k : Int} (h : StkIs vs xs r) (hk : (xs.length : Int) ≤ k) (hr : k ≤ r) : StkIs (vs.take k.toNat) xs k := by
  have h1 := h.len
  have h2 := h.le
  refine ⟨by rw [List.length_take]; omega, by rw [List.length_take]; omega, fun j v hv => ?_⟩
  rw [List.getElem?_take] at hv
  split at hv
  · exact h.at' j v hv
  · cases hv
theorem inv_mk {P : Params} {kt : Nat → Tok} {x dx frs up mi ca : Addr} {rest₀ : Led} {k : Nat} {room top : Int} (stk : Addr) (tt : Tok) (vs : List Value) (n : Nat) (fvs : List Value) (nf : Nat) (ms : List Value) (nm : Nat) (cvs : List Value) (nc : Nat) (rest : Led) (xs : List Dat) (qs : List Quad)
    (htop : top = (xs.length : Int)) (hA : Apart x dx stk frs mi ca) (hoff : OwnOff rest [x, dx, stk, frs, mi, ca]) (hr0 : ∀ p ∈ rest₀, p ∈ rest) (hS : StkIs vs xs room) (hM : DatAll [] ms xs) (hFr : FrAll P rest fvs qs) (hQd : QdAll rest cvs qs) (hG : Good k xs qs room) :
    Inv P kt x dx frs up mi ca rest₀ k room (lawL P kt x dx stk top tt frs up vs n fvs nf mi ms nm ca cvs nc rest) :=
  ⟨stk, tt, vs, n, fvs, nf, ms, nm, cvs, nc, rest, xs, qs, by rw [htop], hA, hoff, hr0, hS, hM, hFr, hQd, hG⟩
end NtMine

end
-- NtAnd
section
open PySem PySem.W PySem.Calls PyProof.Rows
set_option Elab.async false
namespace NtMine
noncomputable def SameB (b2 : Bool) (s : Shared) (b : Bool) (s' : Shared) : Prop := b = b2 ∧ ∃ tk, s' = { s with toks := tk }
theorem SameB.intro {b2 : Bool} {s : Shared} {b : Bool} {tk : Nat} (h : b = b2) : SameB b2 s b { s with toks := tk } := ⟨h, tk, rfl⟩
/-- «a and b», two plain tests, as one: the second is asked only where the first holds -/
theorem nt_and {M : Model} {A : Around} {E : Value → Shared → Prop} {c : Bool} {t : Sem Bool} {Qx : Bool → Shared → Prop} {s : Shared} (b2 : Bool)
    (hc : c = true → wpAny M A t (SameB b2 s) E s) (H : ∀ tk, Qx (c && b2) { s with toks := tk }) :
    if c = true then wpAny M A t Qx E s else Qx false s := by
  cases c with
  | true =>
    rw [if_pos rfl]
    refine wpAny_mono (hc rfl) (fun b s' h => ?_) fun _ _ e => e
    obtain ⟨rfl, tk, rfl⟩ := h
    exact H tk
  | false =>
    rw [if_neg Bool.false_ne_true]
    exact H s.toks
end NtMine

end
-- NtSetSl
section
open PySem PySem.W PySem.Calls PyProof.Rows
set_option Elab.async false
namespace NtMine
set_option maxRecDepth 100000
section
variable {prog : Program} {w : World} {A : Around} {E : Value → Shared → Prop} {s : Shared} {h₀ : Heap} {L D b : Addr} {m : Str → Option Value} {news news' : Led} {vs ws : List Value} {n n2 : Nat}
/-- the slice store «xs[g:] = []», the slice object being at hand -/
theorem nt_setItemFrom {sl : Addr} {g : Int} {t : Tok} {Q : Unit → Shared → Prop} (ho : s.heap.get? D = some (listOf vs.toArray n)) (hb : s.heap.get? b = some (listOf #[] n2)) (hs : s.heap.IsSliceOf sl (.int g t) .none .none) (h0 : 0 ≤ g) (hz : vs.length ≤ 10000)
    (h : Q () { s with heap := s.heap.update D (Obj.mapSeq fun xs => xs.extract 0 ((min g.toNat vs.toArray.size : Nat) : Int).toNat ++ #[] ++ xs.extract (max ((min g.toNat vs.toArray.size : Nat) : Int) (vs.toArray.size : Int)).toNat xs.size) }) :
    wpAny (model prog w) A (setItem (.ref D) (.ref sl) (.ref b)) Q E s := by
  have hl : s.heap.IsList D vs.toArray := ⟨_, ho, rfl, _, rfl⟩
  have hlb : s.heap.IsList b #[] := ⟨_, hb, rfl, _, rfl⟩
  obtain ⟨os, hos, hcs, hds⟩ := id hs
  have hTs : s.TypeIs (.ref sl) "slice" := ⟨os, hos, hcs⟩
  have bd : sliceBounds (some g) none none vs.toArray.size = (((min g.toNat vs.toArray.size : Nat) : Int), (vs.toArray.size : Int), 1) := by
    simp only [sliceBounds, Option.getD_none, show (1 : Int) > 0 by decide, if_true, if_neg (Int.not_lt.mpr h0)]
    rw [clip0 h0]
  have hp : min g.toNat vs.toArray.size ≤ vs.toArray.size := Nat.min_le_right ..
  have hq : (max ((min g.toNat vs.toArray.size : Nat) : Int) (vs.toArray.size : Int)).toNat = vs.toArray.size := by rw [Int.max_eq_right (Int.ofNat_le.mpr hp), Int.toNat_natCast]
  have hz' : ∀ p : Nat, p ≤ vs.toArray.size → (vs.toArray.extract 0 p ++ #[] ++ vs.toArray.extract vs.toArray.size vs.toArray.size).size ≤ 10000 := by
    intro p hp
    rw [Array.append_empty, Array.size_append, Array.size_extract, Array.size_extract, Nat.min_self, Nat.sub_self, Nat.sub_zero, Nat.min_eq_left hp, Nat.add_zero]
    exact Nat.le_trans hp (List.size_toArray ▸ hz)
  unfold setItem
  try with_reducible refine wpAny_holding ?_
  first | refine wpAny_bind (wpAny_pure ?_) | skip
  refine wpAny_bind (wpAny_sequenceKey hl.typeIs (by decide) ?_)
  refine wpAny_bind (wpAny_callSpecial?_slot (name := Str.ofString "__setitem__") hl.typeIs slot_list_setitem
    (wpAny_call_entry slot_list_setitem hl.typeIs entry_list_setitem ?_ (args_list_setitem _ _ _)))
  show wpAny _ _ (Builtin.List.listSubscript? (.ref sl) >>= _) _ _ s
  refine wpAny_bind ?_
  unfold Builtin.List.listSubscript?
  refine wpAny_bind (wpAny_specialOf hTs slice_no_index ?_)
  simp only [Option.isNone_none, if_true]
  refine wpAny_pure ?_
  show wpAny _ _ (typeOf (.ref sl) >>= _) _ _ s
  refine wpAny_bind (wpAny_typeOf hTs ?_)
  rw [if_neg (by decide)]
  rw [listSliceParts_eq]
  have hstep : ¬ ((rawPart none == rawInt 0) = true) := Bool.false_ne_true
  refine wpAny_bind (wpAny_bind (wpAny_field hos hds (x := .none) rfl (wpAny_bind (wpAny_listPart .none ?_))))
  rw [if_neg hstep]
  refine wpAny_bind (wpAny_field hos hds (x := .int g t) rfl (wpAny_bind (wpAny_listPart (.int g t) ?_)))
  refine wpAny_bind (wpAny_field hos hds (x := .none) rfl (wpAny_bind (wpAny_listPart .none (wpAny_pure ?_))))
  have small : ¬ (Builtin.List.listTooLong (vs.toArray.size + (#[] : Array Value).size) = true) := by
    rw [List.size_toArray]
    simp [Builtin.List.listTooLong, sizeLine]
    omega
  split
  · refine wpAny_bind (listItems_at hb rfl ?_)
    refine wpAny_bind (listItems_at ho rfl ?_)
    refine wpAny_bind (wpAny_of_eq (sliceIndices_raw (some g) none none vs.toArray.size (by simp)) ?_)
    rw [bd]
    dsimp only
    rw [if_pos (by decide)]
    refine wpAny_bind (wpAny_rule ?_)
    rw [if_neg small]
    refine wpAny_bind (listUpdate_at ho rfl ?_ (by rw [List.size_toArray, sizeLine_eq]; exact Nat.le_trans hz (by decide)) (by simp only [hq, Int.toNat_natCast]; exact Nat.le_trans (hz' _ hp) (by rw [sizeLine_eq]; decide)))
    refine wpAny_bind (wpAny_letGo ?_)
    exact wpAny_pure ⟨_, rfl, wpAny_pure h⟩
  · refine wpAny_bind ?_
    unfold Builtin.List.listAllItems
    refine wpAny_bind (wpAny_typeOf hlb.typeIs ?_)
    rw [if_pos (by decide)]
    refine listItems_at hb rfl ?_
    refine wpAny_bind (listItems_at ho rfl ?_)
    refine wpAny_bind (wpAny_of_eq (sliceIndices_raw (some g) none none vs.toArray.size (by simp)) ?_)
    rw [bd]
    dsimp only
    rw [if_pos (by decide)]
    refine wpAny_bind (wpAny_rule ?_)
    rw [if_neg small]
    refine wpAny_bind (listUpdate_at ho rfl ?_ (by rw [List.size_toArray, sizeLine_eq]; exact Nat.le_trans hz (by decide)) (by simp only [hq, Int.toNat_natCast]; exact Nat.le_trans (hz' _ hp) (by rw [sizeLine_eq]; decide)))
    refine wpAny_bind (wpAny_letGo ?_)
    exact wpAny_pure ⟨_, rfl, wpAny_pure h⟩
theorem nt_setFrom {g : Int} {t : Tok} {Q : Unit → Shared → Prop} (F : Fr h₀ L s.heap m) (N : News h₀ L s.heap news) (hm : (b, listOf #[] n2) ∈ news)
    (U : Upd D (listOf vs.toArray n) (listOf (vs.take g.toNat).toArray (if (vs.take g.toNat).toArray.size == vs.toArray.size then n else n + 1)) news news') (h0 : 0 ≤ g) (hz : vs.length ≤ 10000)
    (h : ∀ h', Fr h₀ L h' m → News h₀ L h' news' → Q () { s with heap := h' }) :
    wpAny (model prog w) A (setItem (.ref D) (.ref s.heap.objs.size) (.ref b)) Q E { s with heap := s.heap.push { cls := .type "slice", data := .fields #[.int g t, .none, .none] } } := by
  obtain ⟨pre, post, rfl, rfl, a, b'⟩ := U.split
  have F₁ := F.push { cls := .type "slice", data := .fields #[.int g t, .none, .none] }
  have N₁ : News h₀ L (s.heap.push { cls := .type "slice", data := .fields #[.int g t, .none, .none] }) _ := N.grown fun _ _ e => Heap.get?_push_of_some _ e
  have z := N₁ (D, listOf vs.toArray n) (List.mem_append.mpr (.inr (.head _)))
  have zb := N₁ _ hm
  refine nt_setItemFrom (s := { s with heap := s.heap.push { cls := .type "slice", data := .fields #[.int g t, .none, .none] } }) z.1 zb.1 (Heap.IsSliceOf.new ..) h0 hz (h _ (F₁.change (Heap.SameBut.update ..) z.2.1 z.2.2) (ki_turn _ N₁ a b' ?_ rfl))
  apply Array.toList_inj.mp
  have e1 : ((min g.toNat vs.toArray.size : Nat) : Int).toNat = min g.toNat vs.length := by rw [Int.toNat_natCast, List.size_toArray]
  have e2 : (max ((min g.toNat vs.toArray.size : Nat) : Int) (vs.toArray.size : Int)).toNat = vs.length := by rw [Int.max_eq_right (Int.ofNat_le.mpr (Nat.min_le_right ..)), Int.toNat_natCast, List.size_toArray]
  rw [e1, e2]
  simp only [Array.toList_append, Array.toList_extract, List.size_toArray]
  simp [List.extract_eq_take_drop]
theorem nt_addL {Q : Value → Shared → Prop} (F : Fr h₀ L s.heap m) (N : News h₀ L s.heap news) (hm : (D, listOf vs.toArray n) ∈ news) (hm' : (b, listOf ws.toArray n2) ∈ news) (h1 : vs.length ≤ 10000) (h2 : ws.length ≤ 10000)
    (h : ∀ B h', Fr h₀ L h' m → News h₀ L h' ((B, listOf (vs ++ ws).toArray 0) :: news) → (∀ p ∈ news, p.1 < B) → Q (.ref B) { s with heap := h' }) : wpAny (model prog w) A (binaryOp .Add (.ref D) (.ref b)) Q E s :=
  add_lists F N ⟨_, (N _ hm).1, rfl, n, rfl⟩ ⟨_, (N _ hm').1, rfl, n2, rfl⟩ (fun h' F' N' => h _ h' F' N' fun p hp => Heap.lt_size (N p hp).1) (by rw [sizeLine_eq]; omega)
theorem nt_itemL {value slice : Expr} {k : Int} {u : Tok} {Q : Value → Shared → Prop} (N : News h₀ L s.heap news) (hm : (D, listOf vs.toArray n) ∈ news) (hb : vs.length ≤ 100000) (h0 : k < 0) (h1 : -(vs.length : Int) ≤ k)
    (h : ∀ v, vs[(k + vs.length).toNat]? = some v → Q v s)
    (hs : subscripted slice false (.ref D) (.int k u) = operate [.ref D, .int k u] (getItem (.ref D) (.int k u)) := by with_unfolding_all rfl) (hg : ∀ r, letTemporaryGo value (.ref D) r = pure () := by intro _; with_unfolding_all rfl) :
    wpAny (model prog w) A (subscriptTail value slice (.ref D) (.int k u)) Q E s := by
  have hk : (k + vs.length).toNat < vs.length := by omega
  have hsz : vs.toArray.size = vs.length := List.size_toArray ..
  have hl : s.heap.IsList D vs.toArray := ⟨_, (N _ hm).1, rfl, n, rfl⟩
  exact subscriptTail_builtin hl.typeIs slot_list_getitem.lookup (wpAny_getItem_list_neg hl h0 (by rw [hsz]; exact h1) (by omega) (by rw [hsz]; simpa using List.getElem?_eq_getElem hk) (h _ (List.getElem?_eq_getElem hk))) hs hg
end
theorem lines_15 (P : Params) : (PySem.Challenge.rw_nt0650_01, hd.heap_39 P).1 = PySem.Challenge.rw_nt0650_01 := by
  k_fill
  k_with "setItem ref" => ((k_here; (with_reducible show wpAny _ _ (setItem (Value.ref _) (Value.ref _) (Value.ref _)) _ _ _); k_dflt (refine' nt_setFrom ?k1h68g1 ?k2h68g1 ?k3h68g1 ?k4h68g1 ?k5h68g1 ?k6h68g1 ?_; (case k1h68g1 => k_asm); (case k2h68g1 => k_asm); (case k3h68g1 => k_extra "nt_mem"); (case k4h68g1 => k_upd); (case k5h68g1 => k_extra "nt_fit"); (case k6h68g1 => k_extra "nt_fit"); k_whole); intro h' F' N'; (try k_sweep)))
  k_with "subscriptTail" => ((k_here; (with_reducible show wpAny _ _ (subscriptTail _ _ (Value.ref _) (Value.int _ _)) _ _ _); k_dflt (refine' nt_itemL ?k1h69g1 ?k2h69g1 ?k3h69g1 ?k4h69g1 ?k5h69g1 ?_ ?k7h69g1; (case k1h69g1 => k_asm); (case k2h69g1 => k_extra "nt_mem"); (case k3h69g1 => k_extra "nt_fit"); (case k4h69g1 => k_extra "nt_fit0"); (case k5h69g1 => k_extra "nt_fit"); (case k7h69g1 => with_unfolding_all rfl); k_whole); intro v' hv'))
  rfl

section
variable {prog : Program} {w : World} {A : Around} {E : Value → Shared → Prop} {s : Shared} {h₀ : Heap} {L : Addr} {news : Led} {u v : Value} {d e : Dat}
theorem kqd_shaped {d : Dat} (h : kqdOk 8 d = true) : SeqAt.shaped (kqdP d) = true := by
  have l := kqd_lay 8 d h
  unfold SeqAt.shaped
  rw [l.1, Bool.true_and]
  exact decide_eq_true (Nat.le_trans l.2 (by decide))
/-- two values that bear the same datum are equal -/
theorem nt_eqSame {Q : Value → Shared → Prop} (N : News h₀ L s.heap news) (Du : DatIn news u d) (Dv : DatIn news v d) (hd : kqdOk 8 d = true) (hu : A.units + 64 < cLine) (h : Q (.bool true) s) : wpAny (model prog w) A (compareOp .Eq u v) Q E s := by
  obtain ⟨as, ra⟩ := kqd_in N 8 Du hd
  obtain ⟨bs, rb⟩ := kqd_in N 8 Dv hd
  refine eq_dataH ra rb (kqd_shaped hd) (kqd_shaped hd) hu ?_
  rw [(kqd_eqv 8 d d 8 hd hd).mpr rfl]
  exact h
theorem nt_neSame {Q : Value → Shared → Prop} (N : News h₀ L s.heap news) (Du : DatIn news u d) (Dv : DatIn news v d) (hd : kqdOk 8 d = true) (hu : A.units + 64 < cLine) (h : Q (.bool false) s) : wpAny (model prog w) A (compareOp .NotEq u v) Q E s := by
  obtain ⟨as, ra⟩ := kqd_in N 8 Du hd
  obtain ⟨bs, rb⟩ := kqd_in N 8 Dv hd
  refine ne_dataH ra rb (kqd_shaped hd) (kqd_shaped hd) hu ?_
  rw [(kqd_eqv 8 d d 8 hd hd).mpr rfl]
  exact h
end
theorem FrAll.last {P : Params} {fam : Led} {fvs : List Value} {qs : List Quad} (h : FrAll P fam fvs qs) : FrAll P fam fvs.dropLast qs.dropLast :=
  ⟨by rw [List.length_dropLast, List.length_dropLast, h.len], fun i v q a b => by
    rw [List.getElem?_dropLast] at a b
    split at a
    · split at b
      · exact h.at' i v q a b
      · cases b
    · cases a⟩
theorem QdAll.last {fam : Led} {fvs : List Value} {qs : List Quad} (h : QdAll fam fvs qs) : QdAll fam fvs.dropLast qs.dropLast :=
  ⟨by rw [List.length_dropLast, List.length_dropLast, h.len], fun i v q a b => by
    rw [List.getElem?_dropLast] at a b
    split at a
    · split at b
      · exact h.at' i v q a b
      · cases b
    · cases a⟩
theorem snoc_at {α : Type} {l : List α} {x y : α} {i : Nat} (h : (l ++ [x])[i]? = some y) : l[i]? = some y ∨ i = l.length ∧ y = x := by
  rw [List.getElem?_append] at h
  split at h
  · exact .inl h
  · rename_i hi
    have := (List.getElem?_eq_some_iff.mp h).1
    rw [List.length_singleton] at this
    have e : i = l.length := by omega
    rw [e, Nat.sub_self] at h
    exact .inr ⟨e, (Option.some.inj h).symm⟩
theorem FrAll.snoc {P : Params} {fam : Led} {fvs : List Value} {qs : List Quad} {v : Value} {q : Quad} (h : FrAll P fam fvs qs) (k : FrIs P fam v q) : FrAll P fam (fvs ++ [v]) (qs ++ [q]) :=
  ⟨by rw [List.length_append, List.length_append, h.len]; rfl, fun i v' q' a b => by
    have e := h.len
    rcases snoc_at a with a | ⟨a, rfl⟩ <;> rcases snoc_at b with b | ⟨b, rfl⟩
    · exact h.at' i v' q' a b
    · have := (List.getElem?_eq_some_iff.mp a).1; omega
    · have := (List.getElem?_eq_some_iff.mp b).1; omega
    · exact k⟩
theorem QdAll.snoc {fam : Led} {fvs : List Value} {qs : List Quad} {v : Value} {q : Quad} (h : QdAll fam fvs qs) (k : QdIs fam v q) : QdAll fam (fvs ++ [v]) (qs ++ [q]) :=
  ⟨by rw [List.length_append, List.length_append, h.len]; rfl, fun i v' q' a b => by
    have e := h.len
    rcases snoc_at a with a | ⟨a, rfl⟩ <;> rcases snoc_at b with b | ⟨b, rfl⟩
    · exact h.at' i v' q' a b
    · have := (List.getElem?_eq_some_iff.mp a).1; omega
    · have := (List.getElem?_eq_some_iff.mp b).1; omega
    · exact k⟩
noncomputable def SameH (b : Bool) (h₀ : Heap) (L : Addr) (m : Str → Option Value) (news : Led) (s : Shared) (b' : Bool) (s' : Shared) : Prop := b' = b ∧ ∃ h tk, s' = { s with heap := h, toks := tk } ∧ Fr h₀ L h m ∧ News h₀ L h news
theorem SameH.intro {b b' : Bool} {h₀ h : Heap} {L : Addr} {m : Str → Option Value} {news : Led} {s : Shared} {tk : Nat} (e : b' = b) (F : Fr h₀ L h m) (N : News h₀ L h news) : SameH b h₀ L m news s b' { s with heap := h, toks := tk } := ⟨e, h, tk, rfl, F, N⟩
/-- a test whose ways meet -/
theorem nt_test {M : Model} {A : Around} {E : Value → Shared → Prop} {t : Sem Bool} {Qx : Bool → Shared → Prop} {s : Shared} {h₀ : Heap} {L : Addr} {m : Str → Option Value} {news : Led} (b : Bool) (_F : Fr h₀ L s.heap m)
    (h1 : wpAny M A t (SameH b h₀ L m news s) E s) (h2 : ∀ h tk, Fr h₀ L h m → News h₀ L h news → Qx b { s with heap := h, toks := tk }) : wpAny M A t Qx E s := by
  refine wpAny_mono h1 (fun b' s' h => ?_) fun _ _ e => e
  obtain ⟨rfl, h, tk, rfl, F, N⟩ := h
  exact h2 h tk F N
/-- two values' equality, by their data -/
theorem nt_eqDat {prog : Program} {w : World} {A : Around} {E : Value → Shared → Prop} {s : Shared} {h₀ : Heap} {L : Addr} {m : Str → Option Value} {news : Led} {u v : Value} {d e : Dat} {Q : Value → Shared → Prop} (b : Bool) (N : News h₀ L s.heap news) (Du : DatIn news u d) (Dv : DatIn news v e) (hd : kqdOk 8 d = true) (he : kqdOk 8 e = true) (hu : A.units + 64 < cLine)
    (hb : b = true ↔ d = e) (h : Q (.bool b) s) : wpAny (model prog w) A (compareOp .Eq u v) Q E s := by
  obtain ⟨as, ra⟩ := kqd_in N 8 Du hd
  obtain ⟨bs, rb⟩ := kqd_in N 8 Dv he
  refine eq_dataH ra rb (kqd_shaped hd) (kqd_shaped he) hu ?_
  have q := kqd_eqv 8 d e 8 hd he
  have : PyData.eqv (kqdP d) (kqdP e) = b := by
    cases b with
    | true => exact q.mpr (hb.mp rfl)
    | false => exact Bool.eq_false_iff.mpr fun x => Bool.false_ne_true (hb.mpr (q.mp x))
  rw [this]
  exact h
noncomputable abbrev quadD (q : Quad) : Dat := .tuple [.int q.1, .int q.2.1, .int q.2.2.1, .int q.2.2.2]
theorem QdAll.dat {fam : Led} {cvs : List Value} {qs : List Quad} (h : QdAll fam cvs qs) : DatAll fam cvs (qs.map quadD) := by
  refine datAll_of (by rw [List.length_map]; exact h.len) fun i v d a b => ?_
  rw [List.getElem?_map] at b
  cases hq : qs[i]? with
  | none => rw [hq] at b; cases b
  | some q =>
    rw [hq] at b
    cases b
    obtain ⟨x, t1, t2, t3, t4, n, rfl, m1⟩ := h.at' i v q a hq
    exact .tuple m1 (.cons (.int _ _) (.cons (.int _ _) (.cons (.int _ _) (.cons (.int _ _) .nil))))
theorem kqd_quads (qs : List Quad) : kqdOk 8 (.list (qs.map quadD)) = true := by
  simp only [kqdOk, List.all_eq_true]
  intro d hd
  obtain ⟨q, _, rfl⟩ := List.mem_map.mp hd
  rfl
theorem frIs_of {P : Params} {fam : Led} {x y : Addr} {t0 t1 t2 t3 t4 t5 t6 t7 t8 t9 t10 t11 t12 : Tok} {a b c d : Int} (h1 : (x, instObj 556 y) ∈ fam) (h2 : (y, infT P t0 t1 t2 t3 t4 t5 t6 t7 t8 t9 t10 t11 t12 a b c d) ∈ fam) : FrIs P fam (.ref x) (a, b, c, d) := by
  obtain ⟨k, hk⟩ := inf_tok P t0 t1 t2 t3 t4 t5 t6 t7 t8 t9 t10 t11 t12 a b c d
  rw [hk] at h2
  exact ⟨x, y, k, rfl, h1, h2⟩
theorem usedOf_mem (qs : List Quad) : ∀ (t : Int), ∀ q ∈ qs, q.2.2.1 ≤ usedOf t qs := by
  induction qs with
  | nil => intro t q h; cases h
  | cons q r ih =>
    intro t p hp
    show p.2.2.1 ≤ usedOf (max t q.2.2.1) r
    rcases List.mem_cons.mp hp with rfl | hp
    · have := usedOf_ge r (max t p.2.2.1)
      omega
    · exact ih _ p hp
theorem usedOf_is {qs : List Quad} {t M : Int} (h : M ∈ [t] ++ qs.map (·.2.2.1)) (k : ∀ a ∈ [t] ++ qs.map (·.2.2.1), a ≤ M) : M = usedOf t qs := by
  have h1 : usedOf t qs ≤ M := usedOf_le qs t M (k t (List.mem_append.mpr (.inl (.head _)))) fun q hq => k _ (List.mem_append.mpr (.inr (List.mem_map.mpr ⟨q, hq, rfl⟩)))
  have h2 : M ≤ usedOf t qs := by
    rcases List.mem_append.mp h with h | h
    · rw [List.mem_singleton.mp h]
      exact usedOf_ge qs t
    · obtain ⟨q, hq, rfl⟩ := List.mem_map.mp h
      exact usedOf_mem qs t q hq
  omega
theorem off_with {x dx stk stk' frs mi ca : Addr} {rest : Led} (h : OwnOff rest [x, dx, stk, frs, mi, ca]) (k : OwnOff rest [stk']) : OwnOff rest [x, dx, stk', frs, mi, ca] := fun p hp b hb => by
  simp only [List.mem_cons, List.not_mem_nil, or_false] at hb
  rcases hb with rfl | rfl | rfl | rfl | rfl | rfl
  · exact h p hp _ (by simp)
  · exact h p hp _ (by simp)
  · exact k p hp _ (by simp)
  · exact h p hp _ (by simp)
  · exact h p hp _ (by simp)
  · exact h p hp _ (by simp)
theorem FrAll.mono {P : Params} {fam fam' : Led} {fvs : List Value} {qs : List Quad} (h : FrAll P fam fvs qs) (hs : ∀ p ∈ fam, p ∈ fam') : FrAll P fam' fvs qs :=
  ⟨h.len, fun i v q a b => let ⟨x, d, k, e, m1, m2⟩ := h.at' i v q a b; ⟨x, d, k, e, hs _ m1, hs _ m2⟩⟩
theorem QdAll.mono {fam fam' : Led} {cvs : List Value} {qs : List Quad} (h : QdAll fam cvs qs) (hs : ∀ p ∈ fam, p ∈ fam') : QdAll fam' cvs qs :=
  ⟨h.len, fun i v q a b => let ⟨x, t1, t2, t3, t4, n, e, m1⟩ := h.at' i v q a b; ⟨x, t1, t2, t3, t4, n, e, hs _ m1⟩⟩
theorem lines_16 (P : Params) : (PySem.Challenge.rw_nt0650_01, hd.heap_39 P).1 = PySem.Challenge.rw_nt0650_01 := by
  k_fill
  k_with "nt_frall" => (exact FrAll.mono (by with_reducible assumption) (by k_extra "nt_sub"))
  k_with "subscriptTail Name Constant ref int" => ((k_here; (with_reducible show wpAny _ _ (subscriptTail _ _ (Value.ref _) (Value.int _ _)) _ _ _); k_dflt (refine' nt_itemT ?k1h71g1 ?k2h71g1 ?k3h71g1 ?k4h71g1 ?k5h71g1 ?_ ?k7h71g1; (case k1h71g1 => k_asm); (case k2h71g1 => k_extra "nt_mem"); (case k3h71g1 => decide); (case k4h71g1 => decide); (case k5h71g1 => exact rfl); (case k7h71g1 => with_unfolding_all rfl); k_whole)))
  k_with "subscriptTail Name UnaryOp ref int" => ((k_here; (with_reducible show wpAny _ _ (subscriptTail _ _ (Value.ref _) (Value.int _ _)) _ _ _); k_dflt (refine' nt_itemL ?k1h72g1 ?k2h72g1 ?k3h72g1 ?k4h72g1 ?k5h72g1 ?_ ?k7h72g1; (case k1h72g1 => k_asm); (case k2h72g1 => k_extra "nt_mem"); (case k3h72g1 => k_extra "nt_fit"); (case k4h72g1 => k_extra "nt_fit0"); (case k5h72g1 => k_extra "nt_fit"); (case k7h72g1 => with_unfolding_all rfl); k_whole); intro v' hv'))
  rfl

end NtMine

end
-- NtSame
section
open PySem PySem.W PySem.Calls PyProof.Rows
set_option Elab.async false
namespace NtMine
section
variable {prog : Program} {w : World} {A : Around} {E : Value → Shared → Prop} {s : Shared} {K : Frag} {x C L : Addr} {h₀ : Heap} {m : Str → Option Value} {ox : Obj} {od : Option Obj}
theorem sm_check {M : Model} {id n : String} {rest : List Value} {Q : Unit → Shared → Prop} (X : K.In s.heap) (I : W.InstAt s.heap x ox C od) (hk : builtinKind id = some .slot) (hs : splitId id = some ("object", n)) (ha : argsOk id ⟨.ref x :: rest, []⟩)
    (ho : subIn K (.ref C) (.type "object") = some true) (hq : Q () s) : wpAny M A (checkBuiltinCall id ⟨.ref x :: rest, []⟩) Q E s := by
  simp only [checkBuiltinCall, hk, hs]
  refine wpAny_bind ?_
  unfold isInstance
  refine wpAny_bind (I.type.here ((looks_subIn X ho).here ?_))
  simp only [Bool.not_true, Bool.false_eq_true, if_false]
  cases hsig : Manifest.signature? id with
  | none => exact wpAny_pure hq
  | some sig =>
    simp only [argsOk, hsig] at ha
    have h2 : Bind.checkArgs id sig ⟨.ref x :: rest, []⟩ = pure () := ha
    show wpAny M A (Bind.checkArgs id sig ⟨.ref x :: rest, []⟩) Q E _
    rw [h2]; exact wpAny_pure hq
theorem sm_callEq {Q : Value → Shared → Prop} (X : K.In s.heap) (I : W.InstAt s.heap x ox C od) (ho : subIn K (.ref C) (.type "object") = some true) (hq : Q (.bool true) s) : wpAny (model prog w) A (call (.builtin "object.__eq__") [.ref x, .ref x]) Q E s :=
  wpAny_call (codeAny_call_builtin PySem.F.cmp_object.eq.plain PySem.F.cmpEntry_eq (sm_check X I PySem.F.cmpKind_eq PySem.F.cmpSplit_eq (PySem.F.cmpArgs_eq _ _) ho (objEq_entry_same hq)))
theorem sm_special {name : Str} {id : String} {v : Value} {Q : Option Value → Shared → Prop} (X : K.In s.heap) (I : W.InstAt s.heap x ox C od) (S : Slot "object" name id) (hs : findIn K (.ref C) name = some (some (.builtin id)))
    (h : wpAny (model prog w) A (call (.builtin id) [.ref x, v]) (fun r => Q (some r)) E s) : wpAny (model prog w) A (callSpecialIfBound? (.ref x) name [v]) Q E s := by
  simp only [callSpecialIfBound?, bindSpecialIfBound?]
  refine wpAny_holding (wpAny_bind (wpAny_bind (wpAny_bind (I.type.here ((looks_findIn X hs).here ?_)))))
  simp only [S.bind]
  refine wpAny_bind (wpAny_askSetting (wpAny_ite ?_))
  have fin : wpAny (model prog w) A (call (.builtin id) ([.ref x] ++ [v]) >>= fun v => pure (some v)) Q E s :=
    wpAny_bind (wpAny_mono h (fun v s' h' => wpAny_pure h') fun _ _ h' => h')
  split
  · exact wpAny_bind (wpAny_pure (wpAny_pure fin))
  · exact wpAny_tryCatch (wpAny_bind (wpAny_pure (wpAny_pure fin)))
theorem nt_eqSelf {Q : Value → Shared → Prop} (hu : A.units + 1 < cLine) (F₁ : Fr h₀ L s.heap m) (X₀ : K.In h₀) (I : W.InstAt s.heap x ox C od) (hs : findIn K (.ref C) "__eq__" = some (some (.builtin "object.__eq__"))) (ho : subIn K (.ref C) (.type "object") = some true)
    (h : Q (.bool true) s) : wpAny (model prog w) A (compareOp .Eq (.ref x) (.ref x)) Q E s := by
  have X := X₀.keeps F₁.keep
  show wpAny (model prog w) A (richCompare .Eq (.ref x) (.ref x)) Q E s
  simp only [richCompare, cmpInfo_Eq, oneThing_ref]
  refine wpAny_holding (wpAny_bind (wpAny_cRoomFor (Nat.lt_of_succ_lt hu) ?_))
  refine wpAny_bind (I.type.here (wpAny_bind (I.type.here ?_)))
  rw [if_neg (by simp)]
  refine wpAny_bind (wpAny_pure ?_)
  simp only [Bool.false_eq_true, if_false]
  refine wpAny_bind ?_
  simp only [tryCompare]
  exact wpAny_bind (sm_special X I PySem.F.cmp_object.eq hs (sm_callEq X I ho (wpAny_pure (wpAny_pure h))))
theorem nt_neSelf {Q : Value → Shared → Prop} (hu : A.units + 1 < cLine) (F₁ : Fr h₀ L s.heap m) (X₀ : K.In h₀) (I : W.InstAt s.heap x ox C od) (hs : findIn K (.ref C) "__eq__" = some (some (.builtin "object.__eq__"))) (hs' : findIn K (.ref C) "__ne__" = some (some (.builtin "object.__ne__")))
    (ho : subIn K (.ref C) (.type "object") = some true) (h : Q (.bool false) s) : wpAny (model prog w) A (compareOp .NotEq (.ref x) (.ref x)) Q E s := by
  have X := X₀.keeps F₁.keep
  show wpAny (model prog w) A (richCompare .NotEq (.ref x) (.ref x)) Q E s
  simp only [richCompare, cmpInfo_NotEq, oneThing_ref]
  refine wpAny_holding (wpAny_bind (wpAny_cRoomFor (Nat.lt_of_succ_lt hu) ?_))
  refine wpAny_bind (I.type.here (wpAny_bind (I.type.here ?_)))
  rw [if_neg (by simp)]
  refine wpAny_bind (wpAny_pure ?_)
  simp only [Bool.false_eq_true, if_false]
  refine wpAny_bind ?_
  simp only [tryCompare]
  refine wpAny_bind (sm_special X I PySem.F.cmp_object.ne hs' ?_)
  refine wpAny_call (codeAny_call_builtin PySem.F.cmp_object.ne.plain PySem.F.cmpEntry_ne (sm_check X I PySem.F.cmpKind_ne PySem.F.cmpSplit_ne (PySem.F.cmpArgs_ne _ _) ho ?_))
  unfold Builtin.«object.__ne__»
  repeat (first | with_reducible refine wpAny_cRoomFor (A := A.in1) hu ?_ | with_reducible refine sm_special X I PySem.F.cmp_object.eq hs (sm_callEq X I ho ?_) | wp_step)
  exact h
end
theorem lines_17 (P : Params) : (PySem.Challenge.rw_nt0650_01, hd.heap_39 P).1 = PySem.Challenge.rw_nt0650_01 := by
  k_fill
  k_with "compareOp Eq ref ref" => ((k_here; (with_reducible show wpAny _ _ (compareOp CmpOp.Eq (Value.ref _) (Value.ref _)) _ _ _); k_dflt (refine' nt_eqSelf ?k1h73g1 ?k2h73g1 ?k3h73g1 ?k4h73g1 ?k5h73g1 ?k6h73g1 ?_; (case k2h73g1 => k_asm); (case k3h73g1 => k_asm); (case k4h73g1 => k_inst); (case k5h73g1 => k_is); (case k6h73g1 => k_is); (case k1h73g1 => ktr_units); k_whole)))
  k_with "compareOp NotEq ref ref" => ((k_here; (with_reducible show wpAny _ _ (compareOp CmpOp.NotEq (Value.ref _) (Value.ref _)) _ _ _); k_dflt (refine' nt_neSelf ?k1h74g1 ?k2h74g1 ?k3h74g1 ?k4h74g1 ?k5h74g1 ?k6h74g1 ?k7h74g1 ?_; (case k2h74g1 => k_asm); (case k3h74g1 => k_asm); (case k4h74g1 => k_inst); (case k5h74g1 => k_is); (case k6h74g1 => k_is); (case k7h74g1 => k_is); (case k1h74g1 => ktr_units); k_whole)))
  rfl

end NtMine

end
-- NtDeed
section
open NtMine.InNtCompL
theorem NtMine.InNtDeed.YesNtDeed.here : True := True.intro
open NtMine.InNtDeed
open PySem PySem.W PySem.Calls PyProof.Rows
set_option Elab.async false
namespace NtMine
set_option pp.deepTerms false
set_option pp.maxSteps 3000
theorem max_ite (a b : Int) : max a b = if b > a then b else a := by
  rcases Int.lt_or_le a b with h | h
  · rw [if_pos h, Int.max_eq_right (Int.le_of_lt h)]
  · rw [if_neg (Int.not_lt.mpr h), Int.max_eq_left h]
theorem max_ite' {a b c : Int} (e : c = b) : max a b = if c > a then c else a := e ▸ max_ite a c
theorem rm_nn {a room : Int} (h : 20 ≤ room ∧ room ≤ 100) : 0 ≤ (if a > room then a else room) := by
  split
  · next g => exact Int.le_trans (Int.le_trans (by decide) h.1) (Int.le_of_lt g)
  · exact Int.le_trans (by decide) h.1
theorem rm_bd {a room : Int} (h : 20 ≤ room ∧ room ≤ 100) (ha : a ≤ 100) : 20 ≤ (if a > room then a else room) ∧ (if a > room then a else room) ≤ 100 := by
  split
  · next g => exact ⟨Int.le_trans h.1 (Int.le_of_lt g), ha⟩
  · exact h
theorem le_step {a k M : Nat} (h : a ≤ k) (h2 : k ≤ M) : a ≤ M + 1 := Nat.le_succ_of_le (Nat.le_trans h h2)
theorem le_step1 {a k M : Nat} (h : a ≤ k) (h2 : k ≤ M) : a + 1 ≤ M + 1 := Nat.succ_le_succ (Nat.le_trans h h2)
theorem le_stepP {a k M : Nat} (h : a ≤ k) (h2 : k ≤ M) : a - 1 ≤ M + 1 := Nat.le_trans (Nat.sub_le _ _) (le_step h h2)
theorem min_sub (j x : Nat) : min j x + (j - x) = j := by
  rcases Nat.le_total j x with h | h
  · rw [Nat.min_eq_left h, Nat.sub_eq_zero_of_le h, Nat.add_zero]
  · rw [Nat.min_eq_right h, Nat.add_sub_of_le h]
theorem st_a {q : Int} {m x : Nat} (h : 0 ≤ q) (e : m = x) : (q - ((min q.toNat m : Nat) : Int)).toNat = q.toNat - x := by
  subst e
  obtain ⟨j, rfl⟩ := Int.eq_ofNat_of_zero_le h
  rw [Int.toNat_natCast, Int.toNat_sub]
  rcases Nat.le_total j m with h | h
  · rw [Nat.min_eq_left h, Nat.sub_self, Nat.sub_eq_zero_of_le h]
  · rw [Nat.min_eq_right h]
theorem st_b {q : Int} {x : Nat} (h : 0 ≤ q) : ((min q.toNat x + (q.toNat - x) : Nat) : Int) = q := by
  rw [min_sub, Int.toNat_of_nonneg h]
theorem st_c {q : Int} {x M : Nat} (h : q < 30) (h2 : 29 ≤ M) : min q.toNat x + (q.toNat - x) ≤ M + 1 := by
  rw [min_sub]
  exact Nat.le_trans (Int.toNat_le.mpr (Int.le_of_lt h)) (Nat.succ_le_succ h2)
theorem ins_len {x g : Nat} (h : g ≤ x) : min g x + (x - g + 1) = x + 1 := by rw [Nat.min_eq_left h, ← Nat.add_assoc, Nat.add_sub_of_le h]
theorem last_ix (x : Nat) : (-1 + ((x + 1 : Nat) : Int)).toNat = x := by
  rw [Int.natCast_add, Int.add_comm, Int.natCast_one, Int.add_neg_cancel_right, Int.toNat_natCast]
theorem lines_18 (P : Params) : (PySem.Challenge.rw_nt0650_01, hd.heap_39 P).1 = PySem.Challenge.rw_nt0650_01 := by
  k_fill
  k_with "dd_o" => ((open YesNtDeed in skip); first | exact le_step (k := k) (by with_reducible assumption) (by with_reducible assumption) | exact le_step1 (k := k) (by with_reducible assumption) (by with_reducible assumption) | exact le_stepP (k := k) (by with_reducible assumption) (by with_reducible assumption) | exact (st_b (by with_reducible assumption)).symm | with_reducible assumption | exact int_lt_le (by with_reducible assumption) (by decide) | exact rm_nn (by assumption) | exact rm_bd (by assumption) (by omega) | exact max_ite _ _ | exact max_ite' (by omega) | exact st_b (by assumption) | exact st_c (by assumption) (by assumption) | omega)
  k_with "ite" => ((open YesNtDeed in skip); (refine Park.out ?_))
  k_with "compareOp Eq" => ((open YesNtDeed in skip); ((fail_if_success (with_reducible show wpAny _ _ (compareOp CmpOp.Eq (Value.ref _) (Value.ref _)) _ _ _)); refine Park.out ?_))
  rfl

set_option maxRecDepth 100000 in
set_option maxHeartbeats 4000000 in
theorem deed_says {w : World} {loose : List Str} {mean : ExcName → Option Value} {mg mb : Str → Option Value} {kt : Nat → Tok} {x dx frs up mi ca : Addr} {rest₀ : Led} {k : Nat} {room nb : Int} {t1 t2 : Tok} {news : Led}
   (hk60 : k ≤ 60) (hnb : 0 ≤ nb) (hI : Inv w.params kt x dx frs up mi ca rest₀ k room news) :
   Says w loose mean mg mb 910 [.int nb t1, .ref x, .ref mi, .ref ca, .int room t2] 6 400 news (fun r news' => ∃ room' t', r = .int room' t' ∧ 0 ≤ room' ∧ Inv w.params kt x dx frs up mi ca rest₀ (max k 29 + 1) room' news') := by
  have hk1 : k ≤ max k 29 := Nat.le_max_left ..
  have hk2 : 29 ≤ max k 29 := Nat.le_max_right ..
  have hk3 : max k 29 ≤ 60 := Nat.max_le.mpr ⟨hk60, by decide⟩
  revert hk1 hk2 hk3
  generalize max k 29 = M
  intro hk1 hk2 hk3
  unfold Says
  k_fill
  intro dp un gd cn cs a ccd cl outer A₀ base h₀ L m s Q E B F X N T hk hd hu hret
  obtain ⟨stk, tt, vs, n, fvs, nf, ms, nm, cvs, nc, rest, xs, qs, rfl, hA, hoff, hr0, hS, hM, hFr, hQd, hG⟩ := hI
  obtain ⟨h1, h2, h3, h4, h5, h6, h7, h8, h9, h10, h11, h12, h13, h14, h15⟩ := id hA
  have hS1 := hS.len
  have hS2 := hS.le
  have hM1 := hM.length
  have hF1 := hFr.len
  have hQ1 := hQd.len
  have hG1 := hG.size
  have hG2 := hG.room
  have hG3 := hG.many
  have hroom0 : 0 ≤ room := Int.le_trans (by decide) hG2.1
  have hxM : xs.length ≤ M := Nat.le_trans hG1 hk1
  have hqM : qs.length ≤ M := Nat.le_trans hG3 hk1
  have hv900 : vs.length ≤ 900 := by omega
  have hx60 : xs.length ≤ 60 := Nat.le_trans hG1 hk60
  have hm60 : ms.length ≤ 60 := hM1 ▸ hx60
  have hq60 : qs.length ≤ 60 := Nat.le_trans hG3 hk60
  have hf60 : fvs.length ≤ 60 := hF1 ▸ hq60
  have hc60 : cvs.length ≤ 60 := hQ1 ▸ hq60
  refine wpAny_call ?_
  k_dflt (k_extra "nt_enter")
  k_extra "nt_steps"
  refine Park.out ?_
  unfold Park
  generalize hf : nb.fmod 11 = f at *
  generalize hr : nb.fdiv 11 = r at *
  have hf0 : 0 ≤ f ∧ f < 11 := by subst hf; exact ⟨Int.fmod_nonneg hnb (by decide), Int.fmod_lt_of_pos _ (by decide)⟩
  have hr1 : 0 ≤ r := by subst hr; exact Int.fdiv_nonneg hnb (by decide)
  have e100 : 0 ≤ r.fmod 100 ∧ r.fmod 100 < 100 := ⟨Int.fmod_nonneg hr1 (by decide), Int.fmod_lt_of_pos _ (by decide)⟩
  have e100a := e100.1
  have e100b := e100.2
  clear hf hr hnb
  split
  · rename_i hc1
    simp only [decide_eq_true_eq] at hc1
    k_extra "nt_steps"
    refine hret _ (lawL w.params kt x dx stk ((xs.length : Int) + 1) _ frs up ((grown vs ((xs.length : Int) + 1)).set (xs.length : Int).toNat (.int (r.fmod 100) _)) _ fvs nf mi (ms ++ [.int (r.fmod 100) _]) _ ca cvs nc rest) _ _ (by k_asm) (nt_sub (by k_asm) (by k_extra "nt_sub"))
      ⟨_, _, rfl, ?_, inv_mk stk _ _ _ fvs nf _ _ cvs nc rest (xs ++ [.int (r.fmod 100)]) qs (by rw [List.length_append]; rfl) hA hoff hr0 ?_ (hM.append (.one (.int _ _))) hFr hQd ?_⟩
    · k_extra "dd_o"
    · exact (hS.push (.int _ _)).cast (by k_extra "dd_o")
    · exact ⟨by intro d hd; rcases List.mem_append.mp hd with h | h; exact hG.isv d h; rw [List.mem_singleton.mp h]; exact .inr ⟨_, rfl⟩, by rw [List.length_append]; simp; k_extra "dd_o", by k_extra "dd_o", by k_extra "dd_o", hG.tops⟩
  rename_i hc1
  clear hc1
  k_extra "nt_steps"
  refine Park.out ?_
  unfold Park
  refine nt_and (decide (0 < (ms.length : Int))) (fun _ => ?_) (fun tk => ?_)
  · k_extra "nt_steps"
    refine Park.out ?_
    unfold Park
    split
    · rename_i hq; k_extra "nt_steps"; exact SameB.intro hq.symm
    · rename_i hq; k_extra "nt_steps"; exact SameB.intro (Bool.eq_false_iff.mpr hq).symm
  k_extra "nt_steps"
  refine Park.out ?_
  unfold Park
  split
  · rename_i hc2
    simp only [Bool.and_eq_true, beq_iff_eq, decide_eq_true_eq] at hc2
    k_extra "nt_steps"
    rename (vs[_]? = some _) => hv'
    rename (ms[_]? = some _) => hy'
    obtain ⟨hyl, _⟩ := List.getElem?_eq_some_iff.mp hy'
    have hxl : ms.length - 1 < xs.length := by k_extra "dd_o"
    have hd2 : xs[ms.length - 1]? = some xs[ms.length - 1] := List.getElem?_eq_getElem hxl
    have d1 := hS.at' _ _ hv'
    have d2 := datAll_at hM hy' hd2
    rw [show ((xs.length : Int) - 1).toNat = ms.length - 1 from hM1 ▸ Int.pred_toNat _, List.getD_eq_getElem?_getD, hd2] at d1
    have hV := hG.isv _ (List.mem_of_getElem? hd2)
    generalize xs[ms.length - 1] = d at d1 d2 hV
    simp only [Option.getD_some] at d1
    have fin : ∀ v n1 n2 tt' tk', Fr h₀ L v m → News h₀ L v (lawL w.params kt x dx stk ((xs.length : Int) - 1) tt' frs up (vs.set ((xs.length : Int) - 1).toNat .none) n1 fvs nf mi ms.dropLast n2 ca cvs nc rest) →
        Q (.int room t2) { s with heap := v, toks := tk' } := by
      intro v n1 n2 tt' tk' F9 N9
      refine hret _ _ _ _ F9 N9 ⟨_, _, rfl, by k_extra "dd_o", inv_mk stk _ _ _ fvs nf _ _ cvs nc rest xs.dropLast qs (by
        have e : ((xs.dropLast.length : Nat) : Int) = (xs.length : Int) - 1 := by rw [List.length_dropLast]; k_extra "dd_o"
        rw [e]) hA hoff hr0 (hS.pop (by k_extra "dd_o")) (datAll_last hM) hFr hQd ?_⟩
      exact ⟨fun d hd => hG.isv d (List.dropLast_subset _ hd), by rw [List.length_dropLast]; k_extra "dd_o", by k_extra "dd_o", by k_extra "dd_o", hG.tops⟩
    rcases hV with rfl | ⟨i, rfl⟩
    · cases d1
      cases d2
      refine Park.out ?_
      unfold Park
      refine EqNone.eq_none_none ?_
      k_extra "nt_steps"
      refine Park.out ?_
      unfold Park
      rw [if_pos rfl]
      k_extra "nt_steps"
      exact fin _ _ _ _ _ (by k_asm) (nt_sub (by k_asm) (by k_extra "nt_sub"))
    · cases d1
      cases d2
      refine Park.out ?_
      unfold Park
      refine eq_int ?_
      k_extra "nt_steps"
      refine Park.out ?_
      unfold Park
      rw [if_pos (by simp)]
      k_extra "nt_steps"
      exact fin _ _ _ _ _ (by k_asm) (nt_sub (by k_asm) (by k_extra "nt_sub"))
  rename_i hc2
  clear hc2
  k_extra "nt_steps"
  refine Park.out ?_
  unfold Park
  split
  · rename_i hc3
    simp only [beq_iff_eq] at hc3
    have e90 : 0 ≤ r.fmod 90 ∧ r.fmod 90 < 90 := ⟨Int.fmod_nonneg hr1 (by decide), Int.fmod_lt_of_pos _ (by decide)⟩
    have e90a := e90.1
    have e90b := e90.2
    have eS : 0 ≤ r.fmod ((ms.length : Int) + 1) ∧ r.fmod ((ms.length : Int) + 1) < (ms.length : Int) + 1 := ⟨Int.fmod_nonneg hr1 (by k_extra "dd_o"), Int.fmod_lt_of_pos _ (by k_extra "dd_o")⟩
    have eSa := eS.1
    have eSb := eS.2
    have eSn : (r.fmod ((ms.length : Int) + 1)).toNat ≤ xs.length := by omega
    k_extra "nt_steps"
    rename (Inserted _ _ _ _ _) => hJ'
    obtain ⟨hvl', hvj'⟩ := hJ'
    refine hret _ (lawL w.params kt x dx stk ((xs.length : Int) + 1) _ frs up _ _ fvs nf mi (ms.take (r.fmod ((ms.length : Int) + 1)).toNat ++ .int (r.fmod 90) _ :: ms.drop (r.fmod ((ms.length : Int) + 1)).toNat) _ ca cvs nc rest) _ _ (by k_asm) (nt_sub (by k_asm) (by k_extra "nt_sub"))
      ⟨_, _, rfl, ?_, inv_mk stk _ _ _ fvs nf _ _ cvs nc rest (xs.take (r.fmod ((ms.length : Int) + 1)).toNat ++ .int (r.fmod 90) :: xs.drop (r.fmod ((ms.length : Int) + 1)).toNat) qs (by
        have e : ((xs.take (r.fmod ((ms.length : Int) + 1)).toNat ++ Dat.int (r.fmod 90) :: xs.drop (r.fmod ((ms.length : Int) + 1)).toNat).length : Int) = (xs.length : Int) + 1 := by
          rw [List.length_append, List.length_cons, List.length_take, List.length_drop, ins_len eSn]; rfl
        rw [e]; first | done | rfl) hA hoff hr0 ?_ (datAll_insert hM (.int _ _) _) hFr hQd ?_⟩
    · k_extra "dd_o"
    · exact (hS.insert (.int _ _) (by k_extra "dd_o") hvl' hvj').cast (by k_extra "dd_o")
    · refine ⟨fun d hd => ?_, ?_, by k_extra "dd_o", by k_extra "dd_o", hG.tops⟩
      · rcases List.mem_append.mp hd with h | h
        · exact hG.isv d (List.mem_of_mem_take h)
        · rcases List.mem_cons.mp h with rfl | h
          · exact .inr ⟨_, rfl⟩
          · exact hG.isv d (List.mem_of_mem_drop h)
      · rw [List.length_append, List.length_cons, List.length_take, List.length_drop, ins_len eSn]; exact le_step1 hG1 hk1
  rename_i hc3
  clear hc3
  k_extra "nt_steps"
  refine Park.out ?_
  unfold Park
  refine nt_and (decide (0 < (ms.length : Int))) (fun _ => ?_) (fun tk => ?_)
  · k_extra "nt_steps"
    refine Park.out ?_
    unfold Park
    split
    · rename_i hq; k_extra "nt_steps"; exact SameB.intro hq.symm
    · rename_i hq; k_extra "nt_steps"; exact SameB.intro (Bool.eq_false_iff.mpr hq).symm
  k_extra "nt_steps"
  refine Park.out ?_
  unfold Park
  split
  · rename_i hc4
    simp only [Bool.and_eq_true, beq_iff_eq, decide_eq_true_eq] at hc4
    have eS : 0 ≤ r.fmod (ms.length : Int) ∧ r.fmod (ms.length : Int) < (ms.length : Int) := ⟨Int.fmod_nonneg hr1 (by k_extra "dd_o"), Int.fmod_lt_of_pos _ (by k_extra "dd_o")⟩
    have eSa := eS.1
    have eSb := eS.2
    k_extra "nt_steps"
    rename (Removed _ _ _ _) => hJ'
    obtain ⟨hvl', hvj'⟩ := hJ'
    refine hret _ (lawL w.params kt x dx stk ((xs.length : Int) - 1) _ frs up _ _ fvs nf mi (ms.eraseIdx (r.fmod (ms.length : Int)).toNat) _ ca cvs nc rest) _ _ (by k_asm) (nt_sub (by k_asm) (by k_extra "nt_sub"))
      ⟨_, _, rfl, ?_, inv_mk stk _ _ _ fvs nf _ _ cvs nc rest (xs.eraseIdx (r.fmod (ms.length : Int)).toNat) qs (by
        have e : ((xs.eraseIdx (r.fmod (ms.length : Int)).toNat).length : Int) = (xs.length : Int) - 1 := by
          rw [List.length_eraseIdx, if_pos (by k_extra "dd_o")]; k_extra "dd_o"
        rw [e]; first | done | rfl) hA hoff hr0 ?_ (datAll_erase hM _) hFr hQd ?_⟩
    · k_extra "dd_o"
    · exact hS.remove (by k_extra "dd_o") hvl' hvj'
    · exact ⟨fun d hd => hG.isv d ((List.eraseIdx_subset) hd), by rw [List.length_eraseIdx]; split <;> k_extra "dd_o", by k_extra "dd_o", by k_extra "dd_o", hG.tops⟩
  rename_i hc4
  clear hc4
  k_extra "nt_steps"
  refine Park.out ?_
  unfold Park
  split
  · rename_i hc5
    simp only [beq_iff_eq] at hc5
    have e30 : 0 ≤ r.fmod 30 ∧ r.fmod 30 < 30 := ⟨Int.fmod_nonneg hr1 (by decide), Int.fmod_lt_of_pos _ (by decide)⟩
    have e30a := e30.1
    have e30b := e30.2
    k_extra "nt_steps"
    rename (TopSet _ _ _ _) => hJ'
    obtain ⟨hvl', hvj'⟩ := hJ'
    have etk : (ms.take (r.fmod 30).toNat).length = min (r.fmod 30).toNat ms.length := List.length_take ..
    refine hret _ (lawL w.params kt x dx stk (r.fmod 30) _ frs up _ _ fvs nf mi (ms.take (r.fmod 30).toNat ++ List.replicate (r.fmod 30 - ((ms.take (r.fmod 30).toNat).length : Int)).toNat Value.none) _ ca cvs nc rest) _ _ (by k_asm) (nt_sub (by k_asm) (by k_extra "nt_sub"))
      ⟨_, _, rfl, ?_, inv_mk stk _ _ _ fvs nf _ _ cvs nc rest (xs.take (r.fmod 30).toNat ++ List.replicate ((r.fmod 30).toNat - xs.length) Dat.none) qs ?_ hA hoff hr0 ((hS.setTop (by k_extra "dd_o") hvl' hvj').cast (by k_extra "dd_o")) ?_ hFr hQd ?_⟩
    · k_extra "dd_o"
    · rw [List.length_append, List.length_take, List.length_replicate]; k_extra "dd_o"
    · refine (datAll_take hM _).append ?_
      rw [etk, st_a e30.1 hM1]
      exact datAll_none _
    · refine ⟨fun d hd => ?_, ?_, by k_extra "dd_o", by k_extra "dd_o", hG.tops⟩
      · rcases List.mem_append.mp hd with h | h
        · exact hG.isv d (List.mem_of_mem_take h)
        · exact .inl (List.eq_of_mem_replicate h)
      · rw [List.length_append, List.length_take, List.length_replicate]; k_extra "dd_o"
  rename_i hc5
  clear hc5
  k_extra "nt_steps"
  refine Park.out ?_
  unfold Park
  split
  · rename_i hc6
    simp only [beq_iff_eq] at hc6
    have e70 : 0 ≤ r.fmod 70 ∧ r.fmod 70 < 70 := ⟨Int.fmod_nonneg hr1 (by decide), Int.fmod_lt_of_pos _ (by decide)⟩
    have e70a := e70.1
    have e70b := e70.2
    k_extra "nt_steps"
    refine hret _ (lawL w.params kt x dx stk (xs.length : Int) _ frs up (grown vs (r.fmod 70)) _ fvs nf mi ms _ ca cvs nc rest) _ _ (by k_asm) (nt_sub (by k_asm) (by k_extra "nt_sub"))
      ⟨_, _, rfl, ?_, inv_mk stk _ _ _ fvs nf _ _ cvs nc rest xs qs rfl hA hoff hr0 ?_ hM hFr hQd ?_⟩
    · k_extra "dd_o"
    · exact (hS.grow (by k_extra "dd_o")).cast (by k_extra "dd_o")
    · exact ⟨hG.isv, by k_extra "dd_o", by k_extra "dd_o", by k_extra "dd_o", hG.tops⟩
  rename_i hc6
  clear hc6
  k_extra "nt_steps"
  refine Park.out ?_
  unfold Park
  split
  · rename_i hc7
    simp only [beq_iff_eq] at hc7
    have e9 : 0 ≤ r.fmod 9 ∧ r.fmod 9 < 9 := ⟨Int.fmod_nonneg hr1 (by decide), Int.fmod_lt_of_pos _ (by decide)⟩
    have e9a := e9.1
    have e9b := e9.2
    have e60 : 0 ≤ r.fmod 60 ∧ r.fmod 60 < 60 := ⟨Int.fmod_nonneg hr1 (by decide), Int.fmod_lt_of_pos _ (by decide)⟩
    have e60a := e60.1
    have e60b := e60.2
    have e4 : 0 ≤ r.fmod 4 ∧ r.fmod 4 < 4 := ⟨Int.fmod_nonneg hr1 (by decide), Int.fmod_lt_of_pos _ (by decide)⟩
    have e4a := e4.1
    have e4b := e4.2
    k_extra "nt_steps"
    refine Park.out ?_
    unfold Park
    rw [if_pos (by rw [List.length_append, List.length_singleton]; exact decide_eq_true (by k_extra "dd_o"))]
    k_extra "nt_steps"
    rename ((_ : List Value)[(-1 + ((_ : List Value).length : Int)).toNat]? = some _) => ev'
    rw [List.length_append, List.length_singleton, last_ix, List.getElem?_append_right (Nat.le_refl _), Nat.sub_self] at ev'
    cases ev'
    refine handed_on rfl ?_
    k_extra "nt_steps"
    refine Park.out ?_
    unfold Park
    rw [if_pos rfl]
    k_extra "nt_steps"
    refine hret _ (thrL w.params kt x dx stk (xs.length : Int) _ frs up (grown vs (r.fmod 60)) _ ((frs, listOf (fvs ++ [Value.ref _]).toArray _) :: (mi, listOf ms.toArray _) :: (ca, listOf (cvs ++ [Value.ref _]).toArray _) :: (_, instObj 556 _) :: (_, infT w.params _ _ _ _ _ _ _ _ _ _ _ _ _ (r.fmod 9) (r.fmod 9 + 1) (r.fmod 60) (r.fmod 4 - 1)) ::
        (_, ({ cls := .type "tuple", data := .seq [Value.int (r.fmod 9) _, Value.int (r.fmod 9 + 1) _, Value.int (r.fmod 60) _, Value.int (r.fmod 4 - 1) _].toArray _ } : Obj)) :: rest)) _ _ (by k_asm) (nt_sub (by k_asm) (by k_extra "nt_sub"))
      ⟨_, _, rfl, ?_, inv_mk stk _ _ _ (fvs ++ [_]) _ _ _ (cvs ++ [_]) _ _ xs (qs ++ [(r.fmod 9, r.fmod 9 + 1, r.fmod 60, r.fmod 4 - 1)]) rfl hA ?_ ?_ ((hS.grow (by k_extra "dd_o")).cast (by k_extra "dd_o")) hM
        ((hFr.mono fun p hp => .tail _ (.tail _ (.tail _ hp))).snoc (frIs_of (.head _) (.tail _ (.head _)))) ((hQd.mono fun p hp => .tail _ (.tail _ (.tail _ hp))).snoc ⟨_, _, _, _, _, _, rfl, .tail _ (.tail _ (.head _))⟩) ?_⟩
    · k_extra "dd_o"
    · k_extra "nt_off"
    · exact fun p hp => .tail _ (.tail _ (.tail _ (hr0 p hp)))
    · refine ⟨hG.isv, by k_extra "dd_o", by k_extra "dd_o", by rw [List.length_append, List.length_singleton]; k_extra "dd_o", fun q hq => ?_⟩
      rcases List.mem_append.mp hq with h | h
      · exact hG.tops q h
      · rw [List.mem_singleton.mp h]
        exact e60
  rename_i hc7
  clear hc7
  k_extra "nt_steps"
  refine Park.out ?_
  unfold Park
  refine nt_and (decide (0 < (cvs.length : Int))) (fun _ => ?_) (fun tk => ?_)
  · k_extra "nt_steps"
    refine Park.out ?_
    unfold Park
    split
    · rename_i hq; k_extra "nt_steps"; exact SameB.intro hq.symm
    · rename_i hq; k_extra "nt_steps"; exact SameB.intro (Bool.eq_false_iff.mpr hq).symm
  k_extra "nt_steps"
  refine Park.out ?_
  unfold Park
  split
  · rename_i hc8
    simp only [Bool.and_eq_true, beq_iff_eq, decide_eq_true_eq] at hc8
    k_extra "nt_steps"
    rename (fvs[_]? = some _) => hf'
    rename (cvs[_]? = some _) => hc'
    obtain ⟨hfl, _⟩ := List.getElem?_eq_some_iff.mp hf'
    have hql : fvs.length - 1 < qs.length := by k_extra "dd_o"
    have hq0 : qs[fvs.length - 1]? = some qs[fvs.length - 1] := List.getElem?_eq_getElem hql
    obtain ⟨fa, fd, fk, rfl, hm1, hm2⟩ := hFr.at' _ _ _ hf' hq0
    obtain ⟨ta, q1, q2, q3, q4, qn, rfl, hm3⟩ := hQd.at' _ _ _ hc' (by rw [show cvs.length - 1 = fvs.length - 1 from by rw [hQ1, hF1]]; exact hq0)
    generalize qs[fvs.length - 1] = q₀ at hm2 hm3
    obtain ⟨qa, qb, qc, qd⟩ := q₀
    dsimp only at hm3
    k_extra "nt_steps"
    refine Park.out ?_
    unfold Park
    rw [if_pos rfl]
    k_extra "nt_steps"
    refine hret _ (lawL w.params kt x dx stk (xs.length : Int) _ frs up vs _ fvs.dropLast _ mi ms _ ca cvs.dropLast _ rest) _ _ (by k_asm) (nt_sub (by k_asm) (by k_extra "nt_sub"))
      ⟨_, _, rfl, ?_, inv_mk stk _ _ _ fvs.dropLast _ _ _ cvs.dropLast _ rest xs qs.dropLast rfl hA hoff hr0 hS hM hFr.last hQd.last ?_⟩
    · k_extra "dd_o"
    · exact ⟨hG.isv, by k_extra "dd_o", by k_extra "dd_o", by rw [List.length_dropLast]; k_extra "dd_o", fun q hq => hG.tops q (List.dropLast_subset _ hq)⟩
  rename_i hc8
  clear hc8
  have hu1 := usedOf_ge qs (xs.length : Int)
  have hu2 := usedOf_le qs (xs.length : Int) 60 (by k_extra "dd_o") (fun q hq => by have := hG.tops q hq; k_extra "dd_o")
  k_extra "nt_steps"
  refine Park.out ?_
  unfold Park
  rename News _ _ _ _ => N₁
  rename (OwnOff _ [_]) => l4
  rename (NeA x _) => l1
  rename (NeA dx _) => l2
  rename (NeA frs _) => l3
  k_dflt (refine nt_src (vs := cvs) (fun i ys nx => (nx = _ ∧ IntsAre ys ((qs.take i).map (·.2.2.1)))) rfl (by k_asm) N₁ (by k_extra "nt_mem") (by k_extra "dd_o") ⟨rfl, .nil⟩ ?ct ?cd)
  case ct =>
    rintro i v ys nx I oI C oC D m₂ h tk E' hv ⟨rfl, hi⟩ hC hx F' N' off ne
    obtain ⟨hil, _⟩ := List.getElem?_eq_some_iff.mp hv
    have hqi : qs[i]? = some qs[i] := List.getElem?_eq_getElem (by k_extra "dd_o")
    obtain ⟨ta, q1, q2, q3, q4, qn, rfl, hm3⟩ := hQd.at' _ _ _ hv hqi
    k_extra "nt_steps"
    refine Park.out ?_
    unfold Park
    refine LCg.CompEnd.intro (by k_asm) (by k_asm) _ (by k_extra "nt_sub") off (.inr ⟨_, by k_extra "nt_mem", rfl, _, rfl⟩) ⟨rfl, ?_⟩
    rw [List.take_add_one, hqi, List.map_append]
    exact IntsAre.append hi (.cons _ _ .nil)
  case cd =>
    rintro g ys nx ⟨rfl, hi⟩
    k_extra "nt_steps"
    refine Park.out ?_
    unfold Park
    rename (_ ∈ [_] ++ List.map _ _) => hM1'
    rename (∀ a : Int, a ∈ [_] ++ List.map _ _ → _) => hM2'
    rw [hQ1, List.take_length, hM1] at hM1' hM2'
    have eM := usedOf_is hM1' hM2'
    subst eM
    have hA' : Apart x dx _ frs mi ca := ⟨h1, l1, l2, h4, h5, l3, h7, h8, l4 _ (.tail _ (.head _)) _ (.head _), h10, h11, h12, l4 _ (.tail _ (.tail _ (.head _))) _ (.head _), h14, h15⟩
    have hoff' := off_with hoff fun p hp => l4 p (.tail _ (.tail _ (.tail _ hp)))
    split
    · rename_i hc
      simp only [decide_eq_true_eq] at hc
      k_extra "nt_steps"
      refine hret _ (lawL w.params kt x dx _ (xs.length : Int) _ frs up (if (vs.length : Int) > 2 * usedOf (xs.length : Int) qs + 20 then vs.take (usedOf (xs.length : Int) qs + 20).toNat else vs) _ fvs nf mi ms _ ca cvs nc rest) _ _ (by k_asm) (nt_sub (by k_asm) (by k_extra "nt_sub"))
        ⟨_, _, rfl, by k_extra "dd_o", inv_mk _ _ _ _ fvs nf _ _ cvs nc rest xs qs rfl hA' hoff' hr0 ?_ hM hFr hQd ⟨hG.isv, by k_extra "dd_o", by k_extra "dd_o", by k_extra "dd_o", hG.tops⟩⟩
      rw [if_pos (by k_extra "dd_o")]
      exact hS.shrink (by k_extra "dd_o") (by k_extra "dd_o")
    · rename_i hc
      simp only [decide_eq_true_eq] at hc
      k_extra "nt_steps"
      refine hret _ (lawL w.params kt x dx _ (xs.length : Int) _ frs up (if (vs.length : Int) > 2 * usedOf (xs.length : Int) qs + 20 then vs.take (usedOf (xs.length : Int) qs + 20).toNat else vs) _ fvs nf mi ms _ ca cvs nc rest) _ _ (by k_asm) (nt_sub (by k_asm) (by k_extra "nt_sub"))
        ⟨_, _, rfl, by k_extra "dd_o", inv_mk _ _ _ _ fvs nf _ _ cvs nc rest xs qs rfl hA' hoff' hr0 ?_ hM hFr hQd ⟨hG.isv, by k_extra "dd_o", by k_extra "dd_o", by k_extra "dd_o", hG.tops⟩⟩
      rw [if_neg (by k_extra "dd_o")]
      exact hS
end NtMine

end
-- NtStands
section
open NtMine.InNtCompL
theorem NtMine.InNtStands.YesNtStands.here : True := True.intro
open NtMine.InNtStands
open PySem PySem.W PySem.Calls PyProof.Rows
set_option Elab.async false
namespace NtMine
set_option pp.deepTerms false
set_option pp.maxSteps 3000
theorem lines_19 (P : Params) : (PySem.Challenge.rw_nt0650_01, hd.heap_39 P).1 = PySem.Challenge.rw_nt0650_01 := by
  k_fill
  k_with "ite" => ((open YesNtStands in skip); (refine Park.out ?_))
  k_with "compareOp NotEq ref ref" => ((open YesNtStands in skip); (refine Park.out ?_))
  k_with "compareOp Eq ref ref" => ((open YesNtStands in skip); (refine Park.out ?_))
  k_with "nt_no" => ((open YesNtStands in skip); (refine Park.out ?_; unfold Park; rw [if_neg (by first | exact Bool.false_ne_true | (simp; done) | (simp; omega))]))
  k_with "nt_yes" => ((open YesNtStands in skip); (refine Park.out ?_; unfold Park; rw [if_pos (by first | exact rfl | (simp; done) | (simp; omega))]))
  rfl

theorem quads_ne {qs : List Quad} (h : 0 < qs.length) : false = true ↔ Dat.list (qs.map quadD) = Dat.list [] :=
  ⟨fun e => absurd e Bool.false_ne_true, fun e => by
    injection e with e
    have := congrArg List.length e
    rw [List.length_map] at this
    simp at this
    rw [this] at h
    exact absurd h (Nat.lt_irrefl _)⟩
theorem quads_nil {qs : List Quad} (h : qs.length = 0) : true = true ↔ Dat.list (qs.map quadD) = Dat.list [] :=
  ⟨fun _ => by rw [List.eq_nil_of_length_eq_zero h]; rfl, fun _ => rfl⟩
theorem law_rest {P : Params} {kt : Nat → Tok} {x dx stk : Addr} {top : Int} {tt : Tok} {frs up : Addr} {vs : List Value} {n : Nat} {fvs : List Value} {nf : Nat} {mi : Addr} {ms : List Value} {nm : Nat} {ca : Addr} {cvs : List Value} {nc : Nat} {rest : Led} {p : Addr × Obj} (h : p ∈ rest) : p ∈ lawL P kt x dx stk top tt frs up vs n fvs nf mi ms nm ca cvs nc rest :=
  .tail _ (.tail _ (.tail _ (.tail _ (.tail _ (.tail _ h)))))
theorem law_sub {P : Params} {kt : Nat → Tok} {x dx stk : Addr} {top : Int} {tt : Tok} {frs up : Addr} {vs : List Value} {n : Nat} {fvs : List Value} {nf : Nat} {mi : Addr} {ms : List Value} {nm : Nat} {ca : Addr} {cvs : List Value} {nc : Nat} {rest nx : Led} {q : Addr × Obj}
    (h : ∀ p ∈ lawL P kt x dx stk top tt frs up vs n fvs nf mi ms nm ca cvs nc rest, p ∈ nx) : ∀ p ∈ lawL P kt x dx stk top tt frs up vs n fvs nf mi ms nm ca cvs nc nx, p ∈ q :: nx := by
  intro p hp
  simp only [List.mem_cons] at hp
  rcases hp with e | e | e | e | e | e | e
  · exact .tail _ (h p (e ▸ .head _))
  · exact .tail _ (h p (e ▸ .tail _ (.head _)))
  · exact .tail _ (h p (e ▸ .tail _ (.tail _ (.head _))))
  · exact .tail _ (h p (e ▸ .tail _ (.tail _ (.tail _ (.head _)))))
  · exact .tail _ (h p (e ▸ .tail _ (.tail _ (.tail _ (.tail _ (.head _))))))
  · exact .tail _ (h p (e ▸ .tail _ (.tail _ (.tail _ (.tail _ (.tail _ (.head _)))))))
  · exact .tail _ e
theorem StkIs.three {vs : List Value} {xs : List Dat} {r : Int} (h : StkIs vs xs r) (h3 : 3 ≤ vs.length) : DatAll [] (vs.take 3) ((xs ++ List.replicate 3 Dat.none).take 3) := by
  refine datAll_of (by simp only [List.length_take, List.length_append, List.length_replicate]; omega) fun i v d a b => ?_
  rw [List.getElem?_take] at a b
  split at a
  · rename_i hi
    rw [if_pos hi] at b
    have q := h.at' i v a
    have : d = xs.getD i .none := by
      rw [List.getElem?_append] at b
      split at b
      · rw [List.getD_eq_getElem?_getD, b]; rfl
      · rename_i hx
        rw [List.getElem?_replicate] at b
        split at b
        · rw [getD_out (by omega)]; exact (Option.some.inj b).symm
        · cases b
    rw [this]
    exact q
  · cases a
theorem kqd_three {xs : List Dat} (h : ∀ d ∈ xs, IsV d) : kqdOk 8 (.list (((xs ++ List.replicate 3 Dat.none).take 3).drop 1)) = true := by
  simp only [kqdOk, List.all_eq_true]
  intro d hd
  have hd := List.mem_of_mem_take (List.mem_of_mem_drop hd)
  rcases List.mem_append.mp hd with hd | hd
  · rcases h d hd with rfl | ⟨i, rfl⟩ <;> rfl
  · rw [List.eq_of_mem_replicate hd]; rfl
theorem kqd_isv {xs : List Dat} (h : ∀ d ∈ xs, IsV d) : kqdOk 8 (.list xs) = true := by
  simp only [kqdOk, List.all_eq_true]
  intro d hd
  rcases h d hd with rfl | ⟨i, rfl⟩ <;> rfl
theorem lines_20 (P : Params) : (PySem.Challenge.rw_nt0650_01, hd.heap_39 P).1 = PySem.Challenge.rw_nt0650_01 := by
  k_fill
  k_with "exec If" => ((open YesNtStands in skip); ((with_reducible show wpAny _ _ (exec (PySem.Stmt.If (PySem.Expr.Compare (PySem.Expr.Compare _ [CmpOp.Is] _ _) _ _ _) _ _ _) _) _ _ _); refine Park.out ?_))
  k_with "binaryOp Add ref ref" => ((open YesNtStands in skip); (k_here; (with_reducible show wpAny _ _ (binaryOp Operator.Add (Value.ref _) (Value.ref _)) _ _ _); k_dflt (refine' nt_addL ?k1h84g1 ?k2h84g1 ?k3h84g1 ?k4h84g1 ?k5h84g1 ?k6h84g1 ?_; (case k1h84g1 => k_asm); (case k2h84g1 => k_asm); (case k3h84g1 => k_extra "nt_mem"); (case k4h84g1 => k_extra "nt_mem"); (case k5h84g1 => k_extra "nt_fit"); (case k6h84g1 => k_extra "nt_fit"); k_whole); intro D' h' F' N' l1; (try k_lt l1); (try k_sweep)))
  rfl

set_option maxRecDepth 100000 in
set_option maxHeartbeats 4000000 in
theorem stands_says {w : World} {loose : List Str} {mean : ExcName → Option Value} {mg mb : Str → Option Value} {kt : Nat → Tok} {x dx frs up mi ca : Addr} {rest₀ : Led} {k : Nat} {room : Int} {t2 : Tok} {news : Led}
   (hk60 : k ≤ 60) (hI : Inv w.params kt x dx frs up mi ca rest₀ k room news) :
   Says w loose mean mg mb 915 [.ref x, .ref mi, .ref ca, .int room t2] 6 400 news (fun r news' => r = .bool true ∧ news' = news) := by
  unfold Says
  k_fill
  intro dp un gd cn cs a ccd cl outer A₀ base h₀ L m s Q E B F X N T hk hd hu hret
  obtain ⟨stk, tt, vs, n, fvs, nf, ms, nm, cvs, nc, rest, xs, qs, rfl, hA, hoff, hr0, hS, hM, hFr, hQd, hG⟩ := hI
  obtain ⟨h1, h2, h3, h4, h5, h6, h7, h8, h9, h10, h11, h12, h13, h14, h15⟩ := id hA
  have hS1 := hS.len
  have hS2 := hS.le
  have hM1 := hM.length
  have hF1 := hFr.len
  have hQ1 := hQd.len
  have hG1 := hG.size
  have hG2 := hG.room
  have hG3 := hG.many
  refine wpAny_call ?_
  k_dflt (k_extra "nt_enter")
  k_extra "nt_steps"
  k_extra "nt_no"
  k_extra "nt_steps"
  refine Park.out ?_
  unfold Park
  have hq : DatAll [] ((vs.take (xs.length : Int).toNat).drop (Int.toNat 0)) xs := by simpa using hS.upto
  k_dflt (refine' nt_neSame (d := .list xs) ?eN (DatIn.list ?e1 (DatAll.mono (List.forall_mem_nil _) hq)) (DatIn.list ?e3 (DatAll.mono (List.forall_mem_nil _) hM)) (kqd_isv hG.isv) ?eu ?_; (case eN => k_asm); (case e1 => k_extra "nt_mem"); (case e3 => k_extra "nt_mem"); (case eu => ktr_units); k_whole)
  k_extra "nt_steps"
  k_extra "nt_no"
  k_extra "nt_steps"
  k_extra "nt_no"
  k_extra "nt_steps"
  k_extra "nt_no"
  k_extra "nt_steps"
  refine Park.out ?_
  unfold Park
  rename News _ _ _ _ => N₁
  have hbey := hS.beyond
  k_dflt (refine nt_srcT (vs := vs.drop (xs.length : Int).toNat) (fun i ys nx => (nx = _ ∧ ys = [])) rfl (by k_asm) N₁ (by k_extra "nt_mem") (by rw [List.length_drop]; omega) ⟨rfl, rfl⟩ ?ct ?cd)
  case ct =>
    rintro i v ys nx I oI C oC D m₂ h tk E' hv ⟨rfl, rfl⟩ hC hx F' N' off ne
    obtain rfl := hbey v (List.mem_of_getElem? (by simpa using hv))
    k_extra "nt_steps"
    k_extra "nt_no"
    refine LCg.CompEnd.intro (by k_asm) (by k_asm) _ (by k_extra "nt_sub") off (.inr ⟨_, by k_extra "nt_mem", rfl, _, rfl⟩) ⟨rfl, rfl⟩
  case cd =>
    rintro g ys nx ⟨rfl, rfl⟩
    k_extra "nt_steps"
    refine Park.out ?_
    unfold Park
    k_dflt (refine' nt_neSame (d := .list []) ?eN (DatIn.list ?e1 DatAll.nil) (DatIn.list ?e3 DatAll.nil) rfl ?eu ?_; (case eN => k_asm); (case e1 => k_extra "nt_mem"); (case e3 => k_extra "nt_mem"); (case eu => ktr_units); k_whole)
    k_extra "nt_steps"
    k_extra "nt_no"
    k_extra "nt_steps"
    k_extra "nt_no"
    k_extra "nt_steps"
    k_extra "nt_no"
    k_extra "nt_steps"
    refine Park.out ?_
    unfold Park
    rename Fr _ _ _ _ => F₁
    refine wpAny_If (nt_test (news := lawL w.params kt x dx stk (xs.length : Int) tt frs up vs n fvs nf mi ms nm ca cvs nc rest) false F₁ ?ta ?tb)
    case ta =>
      k_extra "nt_steps"
      refine Park.out ?_
      unfold Park
      split
      · rename_i hz
        simp only [decide_eq_true_eq] at hz
        k_extra "nt_steps"
        rename ((_ : List Value)[(-1 + ((_ : List Value).length : Int)).toNat]? = some _) => ev'
        obtain ⟨fa, fd, fk, rfl, hm1, hm2⟩ := hFr.at' _ _ qs[(-1 + (fvs.length : Int)).toNat] ev' (List.getElem?_eq_getElem (by omega))
        refine handed_on rfl ?_
        k_extra "nt_steps"
        refine Park.out ?_
        unfold Park
        k_dflt (refine' nt_eqDat (d := .list (qs.map quadD)) (e := .list []) false ?eN (DatIn.list ?e1 (hQd.dat.mono ?e2)) (DatIn.list ?e3 DatAll.nil) (kqd_quads qs) rfl ?eu ?eb ?_; (case eN => k_asm); (case e1 => k_extra "nt_mem"); (case e2 => k_extra "nt_sub"); (case e3 => k_extra "nt_mem"); (case eu => ktr_units); (case eb => exact quads_ne (by omega)); k_whole)
        k_extra "nt_steps"
        all_goals first | exact SameH.intro (by first | rfl | simp) (by k_asm) (nt_sub (by k_asm) (by k_extra "nt_sub")) | exact none
      · rename_i hz
        simp only [decide_eq_true_eq] at hz
        k_extra "nt_steps"
        refine Park.out ?_
        unfold Park
        k_dflt (refine' nt_eqDat (d := .list (qs.map quadD)) (e := .list []) true ?eN (DatIn.list ?e1 (hQd.dat.mono ?e2)) (DatIn.list ?e3 DatAll.nil) (kqd_quads qs) rfl ?eu ?eb ?_; (case eN => k_asm); (case e1 => k_extra "nt_mem"); (case e2 => k_extra "nt_sub"); (case e3 => k_extra "nt_mem"); (case eu => ktr_units); (case eb => exact quads_nil (by omega)); k_whole)
        k_extra "nt_steps"
        all_goals first | exact SameH.intro (by first | rfl | simp) (by k_asm) (nt_sub (by k_asm) (by k_extra "nt_sub")) | exact none
    case tb =>
      intro h tk F' N'
      k_extra "nt_steps"
      k_extra "nt_no"
      k_extra "nt_steps"
      refine Park.out ?_
      unfold Park
      rename News _ _ _ _ => N₂
      k_dflt (refine nt_src (vs := fvs) (fun i ys nx => (∀ p ∈ lawL w.params kt x dx stk (xs.length : Int) tt frs up vs n fvs nf mi ms nm ca cvs nc rest, p ∈ nx) ∧ DatAll nx ys ((qs.take i).map quadD)) rfl (by k_asm) N₂ (by k_extra "nt_mem") (by omega) ⟨fun _ h => h, .nil⟩ ?cu ?ce)
      case cu =>
        rintro i v ys nx I oI C oC D m₂ h tk E' hv ⟨hsub, hda⟩ hC hx F' N' off ne
        obtain ⟨hil, _⟩ := List.getElem?_eq_some_iff.mp hv
        have hqi : qs[i]? = some qs[i] := List.getElem?_eq_getElem (by omega)
        obtain ⟨fa, fd, fk, rfl, hm1, hm2⟩ := hFr.at' _ _ _ hv hqi
        replace hm1 := hsub _ (law_rest hm1)
        replace hm2 := hsub _ (law_rest hm2)
        k_extra "nt_steps"
        refine Park.out ?_
        unfold Park
        refine LCg.CompEnd.intro (by k_asm) (by k_asm) ((_, _) :: nx) (by k_extra "nt_sub") ⟨⟨by omega, by omega, by omega⟩, off⟩ (.inr ⟨_, .tail _ (hsub _ (by k_extra "nt_mem")), rfl, _, rfl⟩) ⟨fun p hp => .tail _ (hsub p hp), ?_⟩
        rw [List.take_add_one, hqi, List.map_append]
        exact (hda.mono fun _ h => .tail _ h).append (.one (.tuple (.head _) (.cons (.int _ _) (.cons (.int _ _) (.cons (.int _ _) (.cons (.int _ _) .nil))))))
      case ce =>
        rintro g ys nx ⟨hsub, hda⟩
        rw [hF1, List.take_length] at hda
        k_extra "nt_steps"
        refine Park.out ?_
        unfold Park
        rename News _ _ _ _ => N₃
        replace N₃ := nt_sub (l' := (_, LCg.lst ys) :: lawL w.params kt x dx stk (xs.length : Int) tt frs up vs n fvs nf mi ms nm ca cvs nc nx) N₃ (List.forall_mem_cons.mpr ⟨.head _, law_sub hsub⟩)
        have hsn : ∀ p ∈ rest, p ∈ nx := fun p hp => hsub p (law_rest hp)
        k_dflt (refine' nt_neSame (d := .list (qs.map quadD)) ?eN (DatIn.list ?e1 (hda.mono ?e2)) (DatIn.list ?e3 ((hQd.mono hsn).dat.mono ?e4)) (kqd_quads qs) ?eu ?_; (case eN => k_asm); (case e1 => k_extra "nt_mem"); (case e2 => k_extra "nt_sub"); (case e3 => k_extra "nt_mem"); (case e4 => k_extra "nt_sub"); (case eu => ktr_units); k_whole)
        k_extra "nt_steps"
        k_extra "nt_no"
        k_extra "nt_steps"
        refine Park.out ?_
        unfold Park
        k_dflt (refine nt_srcT (vs := fvs) (fun i ys' nx' => (nx' = (_, LCg.lst ys) :: lawL w.params kt x dx stk (xs.length : Int) tt frs up vs n fvs nf mi ms nm ca cvs nc nx ∧ ys' = [])) rfl (by k_asm) N₃ (by k_extra "nt_mem") (by omega) ⟨rfl, rfl⟩ ?cv ?cw)
        case cv =>
          rintro i v ys' nx' I oI C oC D m₂ h tk E' hv ⟨rfl, rfl⟩ hC hx F' N' off ne
          obtain ⟨hil, _⟩ := List.getElem?_eq_some_iff.mp hv
          have hqi : qs[i]? = some qs[i] := List.getElem?_eq_getElem (by omega)
          obtain ⟨fa, fd, fk, rfl, hm1, hm2⟩ := hFr.at' _ _ _ hv hqi
          replace hm1 := hsn _ hm1
          replace hm2 := hsn _ hm2
          k_extra "nt_steps"
          refine Park.out ?_
          unfold Park
          k_dflt (refine' nt_neSame (d := .tuple [.int 0, .int 0]) ?eN (DatIn.tuple ?e1 (.cons (.int _ _) (.cons (.int _ _) .nil))) (DatIn.tuple ?e3 (.cons (.int _ _) (.cons (.int _ _) .nil))) rfl ?eu ?_; (case eN => k_asm); (case e1 => k_extra "nt_mem"); (case e3 => k_extra "nt_mem"); (case eu => ktr_units); k_whole)
          k_extra "nt_steps"
          k_extra "nt_no"
          k_extra "nt_steps"
          k_extra "nt_no"
          k_extra "nt_steps"
          k_extra "nt_no"
          refine LCg.CompEnd.intro (by k_asm) (by k_asm) _ (by k_extra "nt_sub") off (.inr ⟨_, by k_extra "nt_mem", rfl, _, rfl⟩) ⟨rfl, by first | rfl | trivial⟩
        case cw =>
          rintro g ys' nx' ⟨rfl, rfl⟩
          k_extra "nt_steps"
          refine Park.out ?_
          unfold Park
          k_dflt (refine' nt_neSame (d := .list []) ?eN (DatIn.list ?e1 DatAll.nil) (DatIn.list ?e3 DatAll.nil) rfl ?eu ?_; (case eN => k_asm); (case e1 => k_extra "nt_mem"); (case e3 => k_extra "nt_mem"); (case eu => ktr_units); k_whole)
          k_extra "nt_steps"
          k_extra "nt_no"
          k_extra "nt_steps"
          k_extra "nt_no"
          k_extra "nt_steps"
          refine Park.out ?_
          unfold Park
          k_dflt (refine' nt_eqSame (d := .list (((xs ++ List.replicate 3 Dat.none).take 3).drop 1)) ?eN (DatIn.list ?e1 (DatAll.mono (List.forall_mem_nil _) ?e2)) (DatIn.list ?e3 (DatAll.mono (List.forall_mem_nil _) ?e4)) ?e5 ?eu ?_; (case eN => k_asm); (case e1 => k_extra "nt_mem"); (case e2 => exact datAll_drop (hS.three (by omega)) 1); (case e3 => k_extra "nt_mem"); (case e4 => exact datAll_drop (datAll_take (hM.append (datAll_none 3)) 3) 1); (case e5 => exact kqd_three hG.isv); (case eu => ktr_units); k_whole)
          k_extra "nt_steps"
          refine hret _ (lawL w.params kt x dx stk (xs.length : Int) tt frs up vs n fvs nf mi ms nm ca cvs nc rest) _ _ (by k_asm) (nt_sub (by k_asm) (fun p hp => ?_)) ⟨rfl, rfl⟩
          have hp' := hsub p hp
          k_extra "nt_mem"
end NtMine

end
-- NtSub
section
open PySem PySem.W PySem.Calls PyProof.Rows
set_option Elab.async false
namespace NtMine
set_option maxRecDepth 100000
section
variable {prog : Program} {w : World} {A : Around} {E : Value → Shared → Prop} {s : Shared} {h₀ : Heap} {L D b : Addr} {m : Str → Option Value} {news news' : Led} {vs ws : List Value} {n n2 : Nat}
theorem nt_itemK {value slice : Expr} {k : Int} {u : Tok} {v : Value} {Q : Value → Shared → Prop} (N : News h₀ L s.heap news) (hm : (D, listOf vs.toArray n) ∈ news) (h0 : 0 ≤ k) (h1 : k < 1000) (hv : vs[k.toNat]? = some v)
    (h : Q v s) (hs : subscripted slice false (.ref D) (.int k u) = operate [.ref D, .int k u] (getItem (.ref D) (.int k u)) := by with_unfolding_all rfl) (hg : ∀ r, letTemporaryGo value (.ref D) r = pure () := by intro _; with_unfolding_all rfl) :
    wpAny (model prog w) A (subscriptTail value slice (.ref D) (.int k u)) Q E s :=
  item_listL ⟨_, (N _ hm).1, rfl, n, rfl⟩ h0 (by omega) hv h hs hg
end
/-- the list of numbers, its first eight written -/
noncomputable abbrev someL (a0 a1 a2 a3 a4 a5 a6 a7 : Int) (t0 t1 t2 t3 t4 t5 t6 t7 : Tok) (more : List Value) : List Value := .int a0 t0 :: .int a1 t1 :: .int a2 t2 :: .int a3 t3 :: .int a4 t4 :: .int a5 t5 :: .int a6 t6 :: .int a7 t7 :: more
theorem lines_21 (P : Params) : (PySem.Challenge.rw_nt0650_01, hd.heap_39 P).1 = PySem.Challenge.rw_nt0650_01 := by
  k_fill
  k_with "subscriptTail Name Constant ref int" => ((k_here; (with_reducible show wpAny _ _ (subscriptTail _ _ (Value.ref _) (Value.int _ _)) _ _ _); k_dflt (refine' nt_itemK ?k1h85g1 ?k2h85g1 ?k3h85g1 ?k4h85g1 ?k5h85g1 ?_ ?k7h85g1; (case k1h85g1 => k_asm); (case k2h85g1 => k_extra "nt_mem"); (case k3h85g1 => decide); (case k4h85g1 => decide); (case k5h85g1 => exact rfl); (case k7h85g1 => with_unfolding_all rfl); k_whole)))
  k_with "nt_enterC" => ((refine' code_defCL ?k1h86g1 ?k2h86g1 ?k3h86g1 ?k4h86g1 ?k5h86g1 ?kAh86g1 ?kFh86g1 ?kKh86g1 ?k6h86g1 ?k7h86g1 ?k8h86g1 ?k9h86g1 ?kBh86g1 ?kDh86g1 ?kLh86g1 ?_ ?c2h86g1 ?c3h86g1 ?c4h86g1; (case kAh86g1 => exact rfl); (case kFh86g1 => exact rfl); (case kKh86g1 => first | exact rfl | assumption); (case k1h86g1 => k_asm); (case k2h86g1 => k_asm); (case k3h86g1 => k_asm); (case k4h86g1 => k_asm); (case k5h86g1 => k_asm); (case k6h86g1 => k_is); (case k7h86g1 => k_is); (case kLh86g1 => exact rfl); (case k8h86g1 => ktr_room); (case k9h86g1 => exact BindsTo.of_eq rfl); (case kBh86g1 => exact rfl); (case kDh86g1 => decide +kernel); (case c2h86g1 => exact rfl); (case c3h86g1 => exact rfl); (case c4h86g1 => exact rfl); k_whole; intro g' L' h' tk' cells' FG' F' N' Y' B' X' T' l1; (try k_lt l1); k_cells Y'; (try simp only [List.cons_append, List.nil_append] at N'); (try dsimp only); (try k_lift B'); (try k_fold)))
  k_with "getMethod ref" => ((k_here; (with_reducible show wpAny _ _ (getMethod (Value.ref 58) _ _) _ _ _); k_dflt (refine' method_of_cls ?k1h87g1 ?k2h87g1 ?k3h87g1 ?_; (case k1h87g1 => k_asm); (case k2h87g1 => k_asm); (case k3h87g1 => k_is); k_whole)))
  k_with "getAttr ref" => ((k_here; (with_reducible show wpAny _ _ (getAttr (Value.ref 58) _ _) _ _ _); k_dflt (refine' cls_val ?k1h88g1 ?k2h88g1 ?k3h88g1 ?k4h88g1 ?k5h88g1 ?k6h88g1 ?_; (case k1h88g1 => k_asm); (case k2h88g1 => k_asm); (case k3h88g1 => k_is); (case k4h88g1 => k_is); (case k5h88g1 => k_is); (case k6h88g1 => k_handed); k_whole)))
  rfl

end NtMine

end
-- NtWhile
section
open PySem PySem.W PySem.Calls PyProof.Rows
set_option Elab.async false
namespace NtMine
theorem map_at1 {m m₀ : Str → Option Value} {x : Str} {u : Value} (h : ∀ z, z ≠ x → m z = m₀ z) (k : m x = some u) : m = fun y => if y = x then some u else m₀ y := by
  funext y
  by_cases e : y = x
  · rw [if_pos e, e, k]
  · rw [if_neg e, h y e]
theorem map_at2 {m m₀ : Str → Option Value} {x x' : Str} {u u' : Value} (h : ∀ z, z ≠ x → z ≠ x' → m z = m₀ z) (k : m x = some u) (k' : m x' = some u') : m = fun y => if y = x then some u else if y = x' then some u' else m₀ y := by
  funext y
  by_cases e : y = x
  · rw [if_pos e, e, k]
  · rw [if_neg e]
    by_cases e' : y = x'
    · rw [if_pos e', e', k']
    · rw [if_neg e', h y e e']
section
variable {prog : Program} {w : World} {A : Around} {E : Value → Shared → Prop} {Q : Flow → Shared → Prop} {s : Shared} {env : Env} {h₀ : Heap} {L : Addr}
theorem nt_while1 {test : Expr} {body : List Stmt} {pos : Pos} {m₀ : Str → Option Value} {news : Led} {x : Str} {u₀ : Value} {n₀ : Nat} (J : Nat → Value → Led → Prop)
    (F : Fr h₀ L s.heap m₀) (N : News h₀ L s.heap news) (hx : m₀ x = some u₀) (hj : J n₀ u₀ news)
    (turn : ∀ n u nx h tk, J n u nx → Fr h₀ L h (fun y => if y = x then some u else m₀ y) → News h₀ L h nx →
      wpAny (model prog w) A (isTrue test env (eval test env)) (fun b s₂ =>
        if b = true then wpAny (model prog w) A (execs body env) (WhileStep h₀ L s (fun n m nx => (∀ z, z ≠ x → m z = m₀ z) ∧ ∃ u, m x = some u ∧ J n u nx) n) E s₂ else Q .next s₂) E { s with heap := h, toks := tk })
    (hE : PassesOwn (model prog w) A env E) : wpAny (model prog w) A (exec (.While test body [] pos) env) Q E s :=
  While_inv (fun n m nx => (∀ z, z ≠ x → m z = m₀ z) ∧ ∃ u, m x = some u ∧ J n u nx) F N ⟨fun _ _ => rfl, u₀, hx, hj⟩
    (fun n m₁ nx h tk F₁ N₁ hJ => by
      obtain ⟨h1, u, h2, h3⟩ := hJ
      rw [map_at1 h1 h2] at F₁
      exact turn n u nx h tk h3 F₁ N₁) hE
theorem nt_while2 {test : Expr} {body : List Stmt} {pos : Pos} {m₀ : Str → Option Value} {news : Led} {x x' : Str} {u₀ u₀' : Value} {n₀ : Nat} (J : Nat → Value → Value → Led → Prop)
    (F : Fr h₀ L s.heap m₀) (N : News h₀ L s.heap news) (hx : m₀ x = some u₀) (hx' : m₀ x' = some u₀') (hj : J n₀ u₀ u₀' news)
    (turn : ∀ n u u' nx h tk, J n u u' nx → Fr h₀ L h (fun y => if y = x then some u else if y = x' then some u' else m₀ y) → News h₀ L h nx →
      wpAny (model prog w) A (isTrue test env (eval test env)) (fun b s₂ =>
        if b = true then wpAny (model prog w) A (execs body env) (WhileStep h₀ L s (fun n m nx => (∀ z, z ≠ x → z ≠ x' → m z = m₀ z) ∧ ∃ u u', m x = some u ∧ m x' = some u' ∧ J n u u' nx) n) E s₂ else Q .next s₂) E { s with heap := h, toks := tk })
    (hE : PassesOwn (model prog w) A env E) : wpAny (model prog w) A (exec (.While test body [] pos) env) Q E s :=
  While_inv (fun n m nx => (∀ z, z ≠ x → z ≠ x' → m z = m₀ z) ∧ ∃ u u', m x = some u ∧ m x' = some u' ∧ J n u u' nx) F N ⟨fun _ _ _ => rfl, u₀, u₀', hx, hx', hj⟩
    (fun n m₁ nx h tk F₁ N₁ hJ => by
      obtain ⟨h1, u, u', h2, h2', h3⟩ := hJ
      rw [map_at2 h1 h2 h2'] at F₁
      exact turn n u u' nx h tk h3 F₁ N₁) hE
end
end NtMine

end
-- NtNums
section
open NtMine.InNtCompL
theorem NtMine.InNtNums.YesNtNums.here : True := True.intro
open NtMine.InNtNums
open PySem PySem.W PySem.Calls PyProof.Rows
set_option Elab.async false
namespace NtMine
set_option pp.deepTerms false
set_option pp.maxSteps 3000
theorem lines_22 (P : Params) : (PySem.Challenge.rw_nt0650_01, hd.heap_39 P).1 = PySem.Challenge.rw_nt0650_01 := by
  k_fill
  k_with "exec While" => ((open YesNtNums in skip); (refine Park.out ?_))
  k_with "exec While Compare cons nil" => ((open YesNtNums in skip); (refine Park.out ?_))
  rfl

set_option maxRecDepth 100000 in
set_option maxHeartbeats 4000000 in
theorem nums_says {w : World} {loose : List Str} {mean : ExcName → Option Value} {mg mb : Str → Option Value} {sc : Addr} {vs : List Value} {ns : List Int} {n : Nat}
   (hi : IntsAre vs ns) (hlen : ns.length ≤ 63) :
   Says w loose mean mg mb 905 [.ref sc] 6 400 [(sc, listOf vs.toArray n)] (fun r news' => ∃ so ws ms n', r = .ref so ∧ news' = [(so, listOf ws.toArray n')] ∧ IntsAre ws ms ∧ (∀ a ∈ ms, 0 ≤ a) ∧ 12 ≤ ms.length ∧ ms.length ≤ 18) := by
  unfold Says
  k_fill
  intro dp un gd cn cs a ccd cl outer A₀ base h₀ L m s Q E B F X N T hk hd hu hret
  have hl := hi.length
  refine wpAny_call ?_
  k_dflt (k_extra "nt_enter")
  k_extra "nt_steps"
  refine Park.out ?_
  unfold Park
  rename News _ _ _ _ => N₁
  have hi18 : IntsAre (vs.take (Int.toNat 18)) (ns.take 18) := hi.take 18
  k_dflt (refine nt_src (vs := vs.take (Int.toNat 18)) (fun i ys nx => (nx = _ ∧ ∃ ms, IntsAre ys ms ∧ ms.length = i ∧ ∀ a ∈ ms, 0 ≤ a)) rfl (by k_asm) N₁ (by k_extra "nt_mem") (by rw [List.length_take]; omega) ⟨rfl, [], .nil, rfl, fun _ h => nomatch h⟩ ?ct ?cd)
  case ct =>
    rintro i v ys nx I oI C oC D m₂ h tk E' hv ⟨rfl, ms, hms, hl1, hpos⟩ hC hx F' N' off ne
    obtain ⟨b, tb, rfl, hb⟩ := IntsAre.at hi18 i v hv
    k_extra "nt_steps"
    refine Park.out ?_
    unfold Park
    refine LCg.CompEnd.intro (by k_asm) (by k_asm) _ (by k_extra "nt_sub") off (.inr ⟨_, by k_extra "nt_mem", rfl, _, rfl⟩) ⟨rfl, _, hms.append (.cons _ _ .nil), by rw [List.length_append, hl1]; rfl, fun a ha => ?_⟩
    rcases List.mem_append.mp ha with h | h
    · exact hpos a h
    · rw [List.mem_singleton.mp h]
      split <;> omega
  case cd =>
    rintro g ys nx ⟨rfl, ms, hms, hl1, hpos⟩
    have hl2 : (vs.take (Int.toNat 18)).length = min 18 ns.length := by rw [List.length_take, hl]; rfl
    k_extra "nt_steps"
    refine Park.out ?_
    unfold Park
    rename Fr _ _ _ _ => F₁
    rename News _ _ _ _ => N₁
    have hyl := hms.length
    k_dflt (refine nt_while1 (x := Str.ofString "made") (n₀ := 18 - ys.length) (fun k u nx => ∃ c tc ys' ms' nn, u = .int c tc ∧ 0 ≤ c ∧ c ≤ 3000 ∧ nx = [(_, listOf ys'.toArray nn)] ∧ IntsAre ys' ms' ∧ (∀ a ∈ ms', 0 ≤ a) ∧ ms'.length ≤ 18 ∧ k = 18 - ys'.length) F₁ (nt_sub N₁ (List.forall_mem_cons.mpr ⟨.head _, List.forall_mem_nil _⟩)) rfl ⟨_, _, ys, ms, _, rfl, by omega, by omega, rfl, hms, hpos, by omega, rfl⟩ ?ct ?ce)
    case ct =>
      rintro k u nx h tk ⟨c, tc, ys', ms', nn, rfl, hc0, hc1, rfl, hi', hp', hm18, rfl⟩ F' N'
      have hyl' := hi'.length
      k_extra "nt_steps"
      · have hf : 0 ≤ (c * 37 + 19).fmod 2003 ∧ (c * 37 + 19).fmod 2003 < 2003 := ⟨Int.fmod_nonneg (by omega) (by decide), Int.fmod_lt_of_pos _ (by decide)⟩
        refine WhileStep.intro (n' := 18 - (ys'.length + 1)) (by k_asm) (by k_asm) (by omega) ⟨fun z hz => by simp only [if_neg hz], _, if_pos rfl, _, _, _, _, _, rfl, hf.1, by omega, rfl, hi'.append (.cons _ _ .nil), fun a ha => ?_, by rw [List.length_append, List.length_singleton]; omega, by rw [List.length_append, List.length_singleton]⟩
        rcases List.mem_append.mp ha with h | h
        · exact hp' a h
        · rw [List.mem_singleton.mp h]
          exact hf.1
      · exact hret _ _ _ _ (by k_asm) (by k_asm) ⟨_, _, _, _, rfl, rfl, hi', hp', by omega, hm18⟩
    case ce => passes_own
end NtMine

end
-- NtEncode
section
open PySem PySem.W PySem.Calls PyProof.Rows
set_option Elab.async false
namespace NtMine
open PySem.Builtin._codecs
theorem bad_ascii {c : Nat} (h : c < 128) : utf8Codec.bad c = false := by
  show Str.isSurrogate c = false
  unfold Str.isSurrogate
  simp
  omega
theorem bytes_ascii {c : Nat} (h : c < 128) : utf8Codec.bytesOf c = [c.toUInt8] := by
  show Str.utf8Of c = _
  unfold Str.utf8Of
  rw [if_pos (by omega)]
theorem enc_loop {σ ρ : Type} {n : Nat} {a b : σ} {B : Nat → σ → Sem (ForInStep σ)} {post : σ → Sem ρ} {r : Sem ρ} (h0 : n = 0 → post a = r) (h1 : 0 < n → ∀ i, B i a = pure (.yield b)) (h2 : 0 < n → ∀ i, B i b = pure (.done b)) (h3 : 0 < n → post b = r) :
    (do let s ← forIn [:n] a B; post s) = r := by
  rw [Std.Legacy.Range.forIn_eq_forIn_range']
  have hz : [:n].size = n := by simp [Std.Legacy.Range.size]
  rw [hz]
  cases n with
  | zero => exact h0 rfl
  | succ n =>
    have p : 0 < n + 1 := Nat.succ_pos n
    rw [List.range'_succ, List.forIn_cons, h1 p]
    cases n with
    | zero => exact h3 p
    | succ n =>
      show (do let s ← forIn (List.range' _ (n + 1) _) b B; post s) = r
      rw [List.range'_succ, List.forIn_cons, h2 p]
      exact h3 p
theorem fold_ascii : ∀ (l : List Nat) (out : Array UInt8), (∀ c ∈ l, c < 128) → l.foldl (fun acc y => acc ++ (utf8Codec.bytesOf y).toArray) out = out ++ (l.map Nat.toUInt8).toArray
  | [], out, _ => by simp
  | c :: l, out, h => by
    rw [List.foldl_cons, fold_ascii l _ fun d hd => h d (.tail _ hd), bytes_ascii (h c (.head _))]
    simp
theorem enc_ascii (id : String) (self : Value) (x : Str) (h : ∀ c ∈ x.cps.toList, c < 128) (hz : x.cps.size ≤ 1000) : encodeNarrow id utf8Codec none self x = pure (x.cps.map Nat.toUInt8) := by
  unfold encodeNarrow
  dsimp only
  have hs : x.length = x.cps.size := rfl
  rw [hs]
  have hfind : Array.findIdx? utf8Codec.bad x.cps = none := by
    rw [Array.findIdx?_eq_none_iff]
    intro c hc
    exact bad_ascii (h c (by simpa using hc))
  have hfold : Array.foldl (fun acc y => acc ++ (utf8Codec.bytesOf y).toArray) #[] x.cps = x.cps.map Nat.toUInt8 := by
    rw [← Array.foldl_toList, fold_ascii _ _ h]
    apply Array.toList_inj.mp
    simp
  refine enc_loop (b := (x.cps.size, x.cps.map Nat.toUInt8, {})) (fun e => ?_) (fun p i => ?_) (fun p i => ?_) (fun p => rfl)
  · have : x.cps = #[] := Array.eq_empty_of_size_eq_zero e
    rw [this, Array.map_empty]
  · dsimp only
    rw [if_neg (by simp [sizeLine])]
    have hg : x.cps[0]? = some x.cps[0] := Array.getElem?_eq_getElem p
    rw [hg]
    dsimp only
    rw [if_pos (by rw [bad_ascii (h _ (by simp))]; rfl)]
    have he : x.cps.extract 0 = x.cps := by simp
    rw [he, hfind]
    simp only [Option.getD_none, Nat.zero_add]
    have he2 : x.cps.extract 0 x.cps.size = x.cps := by simp
    rw [he2, hfold]
  · dsimp only
    rw [if_neg (by rw [Array.size_map, sizeLine_eq]; omega)]
    have hg : x.cps[x.cps.size]? = none := Array.getElem?_eq_none (Nat.le_refl _)
    rw [hg]
section
variable {prog : Program} {w : World} {A : Around} {E : Value → Shared → Prop} {s : Shared} {x : Str} {t : Tok} {Q : Value → Shared → Prop}
theorem nt_getEncode {M : Model} {A : Around} {E : Value → Shared → Prop} {pl : Sem Bool} {Q : Value × List Value → Shared → Prop} (h : Q (.builtin "str.encode", [.str x t]) s) : wpAny M A (getMethod (.str x t) (Str.ofString "encode") pl) Q E s := by
  with_reducible exact GM.of (.str x t) (typeIs_str _ _ _) F.slot_str_encode F.type_str_encode GM.noRef h
theorem nt_encode (h : ∀ c ∈ x.cps.toList, c < 128) (hz : x.cps.size ≤ 1000) (hq : ∀ t' tk, Q (.bytes (x.cps.map Nat.toUInt8) t') { s with toks := tk }) : wpAny (model prog w) A (call (.builtin "str.encode") [.str x t]) Q E s := by
  refine wpAny_call_entry F.slot_str_encode (typeIs_str _ _ _) F.entry_str_encode ?_ (F.args_str_encode_1 _)
  rw [encode_tree, encodeRoad_utf8, enc_ascii _ _ _ h hz]
  refine wpAny_bind (wpAny_bind (wpAny_pure (wpAny_mkBytes ?_ ?_)))
  · exact wpAny_pure ⟨_, rfl, hq _ _⟩
  · rw [Array.size_map, sizeLine_eq]; omega
end
theorem lines_23 (P : Params) : (PySem.Challenge.rw_nt0650_01, hd.heap_39 P).1 = PySem.Challenge.rw_nt0650_01 := by
  k_fill
  k_with "getMethod str" => (((with_reducible show wpAny _ _ (getMethod (Value.str _ _) (Str.ofString "encode") _) _ _ _); k_dflt (refine nt_getEncode ?_)))
  rfl

end NtMine

end
-- NtSeg
section
open PySem PySem.W PySem.Calls PyProof.Rows
set_option Elab.async false
namespace NtMine
/-- a body's tail, met as a written list -/
theorem execs_as {M : Model} {A : Around} {Q : Flow → Shared → Prop} {E : Value → Shared → Prop} {s : Shared} {env : Env} {body rest : List Stmt} {st : Stmt} (e : body = st :: rest) (h : wpAny M A (execs (st :: rest) env) Q E s) : wpAny M A (execs body env) Q E s := by
  subst e
  exact h
theorem fr_put {h₀ h : Heap} {L : Addr} {m : Str → Option Value} {x : Str} {u : Value} (F : Fr h₀ L h m) (k : m x = some u) : Fr h₀ L h (fun y => if y = x then some u else m y) := by
  have e : (fun y => if y = x then some u else m y) = m := by
    funext y
    by_cases e : y = x
    · rw [if_pos e, e, k]
    · rw [if_neg e]
  rw [e]
  exact F
noncomputable abbrev cellsX (sc : Scope) (L : Addr) : List (Str × Addr) := cellsFrom (L + 1) sc.names []
end NtMine

end
-- NtS
section
open PySem PySem.W PySem.Calls PyProof.Rows
set_option Elab.async false
namespace NtMine
set_option maxRecDepth 100000
/-- addresses apart, one from another -/
noncomputable def Sep : Led → Prop
  | [] => True
  | p :: r => (∀ q ∈ r, q.1 ≠ p.1) ∧ Sep r
/-- one object set -/
inductive Put (d : Addr) (o o' : Obj) : Led → Led → Prop
  | head {r : Led} : Put d o o' ((d, o) :: r) ((d, o') :: r)
  | tail {p : Addr × Obj} {r r' : Led} : Put d o o' r r' → Put d o o' (p :: r) (p :: r')
theorem Put.mem {d : Addr} {o o' : Obj} {l l' : Led} (P : Put d o o' l l') : (d, o) ∈ l := by
  induction P with
  | head => exact .head _
  | tail _ ih => exact .tail _ ih
theorem Put.keys {d : Addr} {o o' : Obj} {l l' : Led} (P : Put d o o' l l') : l'.map (·.1) = l.map (·.1) := by
  induction P with
  | head => rfl
  | tail _ ih => rw [List.map_cons, List.map_cons, ih]
theorem sep_keys : ∀ {l l' : Led}, l'.map (·.1) = l.map (·.1) → Sep l → Sep l'
  | [], [], _, h => h
  | [], _ :: _, e, _ => by cases e
  | _ :: _, [], e, _ => by cases e
  | p :: r, p' :: r', e, h => by
    rw [List.map_cons, List.map_cons] at e
    obtain ⟨e1, e2⟩ := List.cons.inj e
    refine ⟨fun q hq z => ?_, sep_keys e2 h.2⟩
    have hm : q.1 ∈ r'.map (·.1) := List.mem_map_of_mem hq
    rw [e2] at hm
    obtain ⟨q', hq', e'⟩ := List.mem_map.mp hm
    exact h.1 q' hq' (e'.trans (z.trans e1))
theorem Put.sep {d : Addr} {o o' : Obj} {l l' : Led} (P : Put d o o' l l') (S : Sep l) : Sep l' := sep_keys P.keys S
theorem Put.upd {d : Addr} {o o' : Obj} {l l' : Led} (P : Put d o o' l l') (S : Sep l) : Upd d o o' l l' := by
  induction P with
  | head => exact .head S.1
  | tail P ih => exact .tail (fun e => S.1 _ P.mem e.symm) (ih S.2)
theorem sep_new {a : Addr} {o : Obj} {l : Led} (h : ∀ p ∈ l, p.1 < a) (S : Sep l) : Sep ((a, o) :: l) := ⟨fun q hq e => Nat.lt_irrefl _ (e ▸ h q hq), S⟩
theorem sep_new2 {a b : Addr} {o o' : Obj} {l : Led} (h : ∀ p ∈ l, p.1 < b) (hb : b < a) (S : Sep l) : Sep ((a, o) :: (b, o') :: l) :=
  sep_new (fun p hp => by
    rcases List.mem_cons.mp hp with rfl | hp
    · exact hb
    · exact Nat.lt_trans (h p hp) hb) (sep_new h S)
theorem Pick.sep {p : Addr × Obj} {l l' : Led} (P : Pick p l l') (S : Sep l) : Sep (p :: l') := by
  induction P with
  | head => exact S
  | tail P ih =>
    obtain ⟨a, b⟩ := ih S.2
    refine ⟨fun q hq => ?_, fun q hq => S.1 _ (P.sub _ hq), b⟩
    rcases List.mem_cons.mp hq with rfl | hq
    · exact fun e => S.1 _ P.mem e.symm
    · exact a q hq
/-- some entries of a ledger, in an order of ours -/
inductive Arr : Led → Led → Prop
  | refl {l : Led} : Arr l l
  | cons {p : Addr × Obj} {l l' r : Led} : Pick p l l' → Arr l' r → Arr l (p :: r)
  | drop {p : Addr × Obj} {l r : Led} : Arr l r → Arr (p :: l) r
theorem arr_mem {l r : Led} (P : Arr l r) : ∀ q ∈ r, q ∈ l := by
  induction P with
  | refl => exact fun _ h => h
  | cons P _ ih =>
    intro q hq
    rcases List.mem_cons.mp hq with rfl | hq
    · exact P.mem
    · exact P.sub _ (ih q hq)
  | drop _ ih => exact fun q hq => .tail _ (ih q hq)
theorem arr_news {h₀ h : Heap} {L : Addr} {l r : Led} (N : News h₀ L h l) (P : Arr l r) : News h₀ L h r := fun p hp => N p (arr_mem P p hp)
theorem arr_sep {l r : Led} (S : Sep l) (P : Arr l r) : Sep r := by
  induction P with
  | refl => exact S
  | cons P A ih =>
    obtain ⟨a, b⟩ := P.sep S
    exact ⟨fun q hq => a q (arr_mem A q hq), ih b⟩
  | drop _ ih => exact ih S.2
noncomputable abbrev flv (fl : Flow) : Value := match fl with
  | .ret v => v
  | _ => .none
/-- a def's contract: from the ledger, with a value and a ledger handed to R -/
noncomputable def CodeK (w : World) (loose : List Str) (mean : ExcName → Option Value) (mg mb : Str → Option Value) (gd : Option (List Code)) (f : Addr) (vs : List Value) (kd ku : Nat) (news : Led) (R : (Value → Led → Prop) → Prop) : Prop :=
  ∀ (dp un : Nat) (cn : Str) (cs : Scope) (a : Addr) (ccd : Value) (cl : List (Str × Addr)) (outer : List Env) (A₀ : Around) (base h₀ : Heap) (L : Addr) (m : Str → Option Value) (s : Shared) (Z : Result → Shared → Prop),
    Below A₀ base outer h₀ → Fr h₀ L s.heap m → (hd.heap_39 w.params).In h₀ → News h₀ L s.heap news → Sep news → Top hd.view_39 loose mean mg mb h₀ → cs.kind = .function → dp + kd < recursionLimit → un + ku < cLine →
    R (fun r nx => ∀ (h' : Heap) (tk' : Nat), Fr h₀ L h' m → News h₀ L h' nx → Sep nx → Z (.ok (.ret r)) { s with heap := h', toks := tk' }) →
    codeAny (model PySem.Challenge.rw_nt0650_01.row.prog w) (ktrTop dp un gd cn cs L a ccd cl outer) (.call (.ref f) ⟨vs, []⟩) Z s
/-- a body's contract -/
noncomputable def BodyK (w : World) (loose : List Str) (mean : ExcName → Option Value) (mg mb : Str → Option Value) (gd : Option (List Code)) (f : Addr) (qual : Str) (scope : Scope) (cdv : Value) (body : List Stmt) (kd ku : Nat) (m : Str → Option Value) (news : Led) (R : (Value → Led → Prop) → Prop) : Prop :=
  ∀ (dp un : Nat) (outer : List Env) (A₀ : Around) (base h₀ : Heap) (L : Addr) (s : Shared) (Q : Flow → Shared → Prop) (E : Value → Shared → Prop),
    Below A₀ base outer h₀ → Fr h₀ L s.heap m → (hd.heap_39 w.params).In h₀ → News h₀ L s.heap news → Sep news → Top hd.view_39 loose mean mg mb h₀ → dp + kd < recursionLimit → un + ku < cLine →
    PassesOwn (model PySem.Challenge.rw_nt0650_01.row.prog w) (ktrTop dp un gd qual scope L f cdv [] outer) (envOf qual scope L f cdv) E →
    R (fun r nx => ∀ (fl : Flow) (h' : Heap) (tk' : Nat) (m' : Str → Option Value), flv fl = r → Fr h₀ L h' m' → News h₀ L h' nx → Sep nx → Q fl { s with heap := h', toks := tk' }) →
    wpAny (model PySem.Challenge.rw_nt0650_01.row.prog w) (ktrTop dp un gd qual scope L f cdv [] outer) (execs body (envOf qual scope L f cdv)) Q E s
noncomputable def Mono (R : (Value → Led → Prop) → Prop) : Prop := ∀ K K' : Value → Led → Prop, (∀ r nx, K r nx → K' r nx) → R K → R K'
section
variable {w : World} {loose : List Str} {mean : ExcName → Option Value} {mg mb : Str → Option Value} {gd : Option (List Code)} {f : Addr} {vs : List Value} {kd ku : Nat} {news : Led} {R : (Value → Led → Prop) → Prop}
theorem code_of_body {name qual : Str} {params : Arguments} {body rest : List Stmt} {st : Stmt} {scope : Scope} {dV kV doc pm cdv ct oc : Value} {an od : Option Addr} {osl : Array (Option Value)} {binds : List (Str × Value)}
    (mono : Mono R) (ho : (hd.heap_39 w.params).lookup f = some ⟨oc, od, .func (fnOf name qual params body scope dV kV doc pm an cdv ct), osl⟩) (hcd : codeIn (hd.heap_39 w.params) cdv qual = true)
    (hbind : ∀ s : Shared, (hd.heap_39 w.params).In s.heap → BindsTo s (fnOf name qual params body scope dV kV doc pm an cdv ct) ⟨vs, []⟩ binds) (hloc : ∀ y ∈ binds, scope.names.lookup y.1 = some .local) (hb : body = st :: rest)
    (hco : scope.isCoroutine = false) (hgen : scope.isGenerator = false) (hk : scope.kind = .function) (hcell : ∀ x ∈ scope.names, x.2 ≠ .cell)
    (H : BodyK w loose mean mg mb gd f qual scope cdv (st :: rest) kd ku (fun y => binds.reverse.lookup y) news R) : CodeK w loose mean mg mb gd f vs (kd + 1) (ku + 3) news R := by
  intro dp un cn cs a ccd cl outer A₀ base h₀ L m s Z B F X N S T hkk hd hu hret
  refine code_defL B F X N T rfl rfl hkk ho hcd (by show dp < _; omega) (hbind s (X.keeps F.keep)) hloc hb (fun g L' h₁ FG F' N' B' X' T' => ?_) hco hgen hk hcell
  refine H (dp + 1) (un + 3) _ _ _ g L' _ _ _ B' F' X' N' S T' (by omega) (by omega) (by passes_own) (mono _ _ (fun r nx hK fl h' tk' m' e F2 N2 S2 => ?_) hret)
  subst e
  cases fl <;> exact leaveK_ F2 N2 fun F3 N3 => hK h' tk' F3 N3 S2
theorem code_use (C : CodeK w loose mean mg mb gd f vs kd ku news R) {dp un : Nat} {cn : Str} {cs : Scope} {a : Addr} {ccd : Value} {cl : List (Str × Addr)} {outer : List Env} {A₀ : Around} {base h₀ : Heap} {L : Addr} {m : Str → Option Value} {s : Shared} {Q E : Value → Shared → Prop} {led : Led}
    (B : Below A₀ base outer h₀) (F : Fr h₀ L s.heap m) (X : (hd.heap_39 w.params).In h₀) (N : News h₀ L s.heap led) (S : Sep led) (P : Arr led news) (T : Top hd.view_39 loose mean mg mb h₀) (hk : cs.kind = .function) (hd : dp + kd < recursionLimit) (hu : un + ku < cLine)
    (ret : R (fun r nx => ∀ (h' : Heap) (tk' : Nat), Fr h₀ L h' m → News h₀ L h' nx → Sep nx → Q r { s with heap := h', toks := tk' })) :
    wpAny (model PySem.Challenge.rw_nt0650_01.row.prog w) (ktrTop dp un gd cn cs L a ccd cl outer) (call (.ref f) vs) Q E s := wpAny_call (C _ _ _ _ _ _ _ _ _ _ _ _ _ _ _ B F X (arr_news N P) (arr_sep S P) T hk hd hu ret)
/-- a property's read by its contract -/
theorem code_prop {C x p : Addr} {ox od : Obj} {name : Str} {more : List Value} {expr : Bool} (H : CodeK w loose mean mg mb gd f [.ref x] kd ku news R) {dp un : Nat} {cn : Str} {cs : Scope} {a : Addr} {ccd : Value} {cl : List (Str × Addr)} {outer : List Env} {A₀ : Around} {base h₀ : Heap} {L : Addr} {m : Str → Option Value} {s : Shared} {Q E : Value → Shared → Prop} {led : Led}
    (I : InstAt s.heap x ox C (some od)) (hg : plainGet (hd.heap_39 w.params) C name = true) (hh : hasDictIn (hd.heap_39 w.params) C = true) (ha : findIn (hd.heap_39 w.params) (.ref C) name = some (some (.ref p)))
    (hn : specialIn (hd.heap_39 w.params) (.ref p) "__get__" = some (some (.builtin "property.__get__"))) (ht : takesIn (hd.heap_39 w.params) (.ref p) = some true) (hp : recIn (hd.heap_39 w.params) p "property" = some (.ref f :: more)) (mono : Mono R)
    (B : Below A₀ base outer h₀) (F : Fr h₀ L s.heap m) (X : (hd.heap_39 w.params).In h₀) (N : News h₀ L s.heap led) (S : Sep led) (P : Arr led news) (T : Top hd.view_39 loose mean mg mb h₀) (hk : cs.kind = .function) (hd : dp + kd < recursionLimit) (hu : un + (ku + 1) < cLine)
    (ret : R (fun r nx => ∀ (h' : Heap) (tk' : Nat), Fr h₀ L h' m → News h₀ L h' nx → Sep nx → handedIn r = true ∧ Q r { s with heap := h', toks := tk' })) :
    wpAny (model PySem.Challenge.rw_nt0650_01.row.prog w) (ktrTop dp un gd cn cs L a ccd cl outer) (getAttr (.ref x) name expr) Q E s :=
  get_prop F X I hg hh ha hn ht hp (H dp (un + 1) _ _ _ _ _ _ _ _ _ _ _ { s with toks := s.toks + 1 } _ B F X (arr_news N P) (arr_sep S P) T hk hd (by omega) (mono _ _ (fun r nx hK h' tk' F2 N2 S2 => by
    obtain ⟨a1, a2⟩ := hK h' tk' F2 N2 S2
    exact handed_on a1 a2) ret))
end
/-- a constructor's contract -/
noncomputable def MakeK (w : World) (loose : List Str) (mean : ExcName → Option Value) (mg mb : Str → Option Value) (gd : Option (List Code)) (C : Addr) (vs : List Value) (kd ku : Nat) (news : Led) (R : (Value → Led → Prop) → Prop) : Prop :=
  ∀ (dp un : Nat) (cn : Str) (cs : Scope) (a : Addr) (ccd : Value) (cl : List (Str × Addr)) (outer : List Env) (A₀ : Around) (base h₀ : Heap) (L : Addr) (m : Str → Option Value) (s : Shared) (Q E : Value → Shared → Prop),
    Below A₀ base outer h₀ → Fr h₀ L s.heap m → (hd.heap_39 w.params).In h₀ → News h₀ L s.heap news → Sep news → Top hd.view_39 loose mean mg mb h₀ → cs.kind = .function → dp + kd < recursionLimit → un + ku < cLine →
    R (fun r nx => ∀ (h' : Heap) (tk' : Nat), Fr h₀ L h' m → News h₀ L h' nx → Sep nx → Q r { s with heap := h', toks := tk' }) →
    wpAny (model PySem.Challenge.rw_nt0650_01.row.prog w) (ktrTop dp un gd cn cs L a ccd cl outer) (call (.ref C) vs) Q E s
theorem cls_of_body {w : World} {loose : List Str} {mean : ExcName → Option Value} {mg mb : Str → Option Value} {gd : Option (List Code)} {f C : Addr} {vs : List Value} {kd ku : Nat} {news : Led} {Rx : Addr → Addr → (Led → Prop) → Prop}
    {name qual : Str} {params : Arguments} {body rest : List Stmt} {st : Stmt} {scope : Scope} {dV kV doc pm cdv ct oc : Value} {an od : Option Addr} {osl : Array (Option Value)} {binds : Addr → List (Str × Value)}
    (hm : makesIn (hd.heap_39 w.params) C = true) (hi : findIn (hd.heap_39 w.params) (.ref C) "__init__" = some (some (.ref f))) (hf : isFn (hd.heap_39 w.params) (.ref f) = true)
    (mono : ∀ x dx K K', (∀ nx, K nx → K' nx) → Rx x dx K → Rx x dx K') (ho : (hd.heap_39 w.params).lookup f = some ⟨oc, od, .func (fnOf name qual params body scope dV kV doc pm an cdv ct), osl⟩) (hcd : codeIn (hd.heap_39 w.params) cdv qual = true)
    (hbind : ∀ x (s : Shared), (hd.heap_39 w.params).In s.heap → BindsTo s (fnOf name qual params body scope dV kV doc pm an cdv ct) ⟨.ref x :: vs, []⟩ (binds x)) (hloc : ∀ x, ∀ y ∈ binds x, scope.names.lookup y.1 = some .local) (hb : body = st :: rest)
    (hco : scope.isCoroutine = false) (hgen : scope.isGenerator = false) (hk : scope.kind = .function) (hcell : ∀ x ∈ scope.names, x.2 ≠ .cell)
    (H : ∀ x dx, BodyK w loose mean mg mb gd f qual scope cdv (st :: rest) kd ku (fun y => (binds x).reverse.lookup y) ((x, instObj C dx) :: (dx, dictOf [] 0) :: news) (fun K => Rx x dx (fun nx => K .none nx))) :
    MakeK w loose mean mg mb gd C vs (kd + 2) (ku + 4) news (fun K => ∀ x dx, Rx x dx (fun nx => K (.ref x) nx)) := by
  intro dp un cn cs a ccd cl outer A₀ base h₀ L m s Q E B F X N S T hkk hd hu hret
  refine call_cls F X N hm hi hf fun x dx h' F1 N1 l1 l2 => ?_
  have S1 : Sep ((x, instObj C dx) :: (dx, dictOf [] 0) :: news) := sep_new2 l1 l2 S
  refine code_defL B F1 X N1 T (A := Around.under (ktrTop dp un gd cn cs L a ccd cl outer) (.builtin "type.__call__" ⟨.ref C :: vs, []⟩)) rfl rfl hkk ho hcd (by show dp + 1 < _; omega) (hbind x _ (X.keeps F1.keep)) (hloc x) hb (fun g L' h₁ FG F' N' B' X' T' => ?_) hco hgen hk hcell
  refine H x dx (dp + 1 + 1) (un + 1 + 3) _ _ _ g L' _ _ _ B' F' X' N' S1 T' (by omega) (by omega) (by passes_own) (mono x dx _ _ (fun nx hK fl h' tk' m' e F2 N2 S2 => ?_) (hret x dx))
  have k : ∀ v, v = Value.none → LeaveK h₀ L m g (InitBack x fun r s' => match r with | .ok (.ret v) => Q v s' | .ok _ => False | .error e => E e s') v { s with heap := h', toks := tk' } := fun v e => leaveK_ F2 N2 fun F3 N3 => ⟨e, hK h' tk' F3 N3 S2⟩
  cases fl <;> exact k _ e
theorem make_use {w : World} {loose : List Str} {mean : ExcName → Option Value} {mg mb : Str → Option Value} {gd : Option (List Code)} {C : Addr} {vs : List Value} {kd ku : Nat} {news : Led} {R : (Value → Led → Prop) → Prop} (H : MakeK w loose mean mg mb gd C vs kd ku news R)
    {dp un : Nat} {cn : Str} {cs : Scope} {a : Addr} {ccd : Value} {cl : List (Str × Addr)} {outer : List Env} {A₀ : Around} {base h₀ : Heap} {L : Addr} {m : Str → Option Value} {s : Shared} {Q E : Value → Shared → Prop} {led : Led}
    (B : Below A₀ base outer h₀) (F : Fr h₀ L s.heap m) (X : (hd.heap_39 w.params).In h₀) (N : News h₀ L s.heap led) (S : Sep led) (P : Arr led news) (T : Top hd.view_39 loose mean mg mb h₀) (hk : cs.kind = .function) (hd : dp + kd < recursionLimit) (hu : un + ku < cLine)
    (ret : R (fun r nx => ∀ (h' : Heap) (tk' : Nat), Fr h₀ L h' m → News h₀ L h' nx → Sep nx → Q r { s with heap := h', toks := tk' })) :
    wpAny (model PySem.Challenge.rw_nt0650_01.row.prog w) (ktrTop dp un gd cn cs L a ccd cl outer) (call (.ref C) vs) Q E s := H _ _ _ _ _ _ _ _ _ _ _ _ _ _ _ _ B F X (arr_news N P) (arr_sep S P) T hk hd hu ret
/-- a def's last statements -/
noncomputable def SegK (w : World) (loose : List Str) (mean : ExcName → Option Value) (mg mb : Str → Option Value) (gd : Option (List Code)) (f : Addr) (qual : Str) (scope : Scope) (cdv : Value) (cells : Addr → List (Str × Addr)) (body : List Stmt) (kd ku : Nat) (mk : (Str → Option Value) → Str → Option Value) (news : Addr → Led) (R : (Value → Led → Prop) → Prop) : Prop :=
  ∀ (dp un : Nat) (outer : List Env) (A₀ : Around) (base h₀ : Heap) (L : Addr) (m₀ : Str → Option Value) (s : Shared) (Q : Flow → Shared → Prop) (E : Value → Shared → Prop),
    Below A₀ base outer h₀ → Fr h₀ L s.heap (mk m₀) → (hd.heap_39 w.params).In h₀ → News h₀ L s.heap (news L) → Sep (news L) → Top hd.view_39 loose mean mg mb h₀ → dp + kd < recursionLimit → un + ku < cLine →
    PassesOwn (model PySem.Challenge.rw_nt0650_01.row.prog w) (ktrTop dp un gd qual scope L f cdv (cells L) outer) (envX qual scope L f cdv (cells L)) E →
    R (fun r nx => ∀ (fl : Flow) (h' : Heap) (tk' : Nat) (m' : Str → Option Value), flv fl = r → Fr h₀ L h' m' → News h₀ L h' nx → Sep nx → Q fl { s with heap := h', toks := tk' }) →
    wpAny (model PySem.Challenge.rw_nt0650_01.row.prog w) (ktrTop dp un gd qual scope L f cdv (cells L) outer) (execs body (envX qual scope L f cdv (cells L))) Q E s
theorem segk_use {w : World} {loose : List Str} {mean : ExcName → Option Value} {mg mb : Str → Option Value} {gd : Option (List Code)} {f : Addr} {qual : Str} {scope : Scope} {cdv : Value} {cells : Addr → List (Str × Addr)} {body : List Stmt} {kd ku : Nat} {mk : (Str → Option Value) → Str → Option Value} {news : Addr → Led} {R : (Value → Led → Prop) → Prop}
    (C : SegK w loose mean mg mb gd f qual scope cdv cells body kd ku mk news R) {dp un : Nat} {outer : List Env} {A₀ : Around} {base h₀ : Heap} {L : Addr} {m₀ : Str → Option Value} {s : Shared} {Q : Flow → Shared → Prop} {E : Value → Shared → Prop} {led : Led}
    (B : Below A₀ base outer h₀) (F : Fr h₀ L s.heap (mk m₀)) (X : (hd.heap_39 w.params).In h₀) (N : News h₀ L s.heap led) (S : Sep led) (P : Arr led (news L)) (T : Top hd.view_39 loose mean mg mb h₀) (hd : dp + kd < recursionLimit) (hu : un + ku < cLine)
    (hE : PassesOwn (model PySem.Challenge.rw_nt0650_01.row.prog w) (ktrTop dp un gd qual scope L f cdv (cells L) outer) (envX qual scope L f cdv (cells L)) E)
    (ret : R (fun r nx => ∀ (fl : Flow) (h' : Heap) (tk' : Nat) (m' : Str → Option Value), flv fl = r → Fr h₀ L h' m' → News h₀ L h' nx → Sep nx → Q fl { s with heap := h', toks := tk' })) :
    wpAny (model PySem.Challenge.rw_nt0650_01.row.prog w) (ktrTop dp un gd qual scope L f cdv (cells L) outer) (execs body (envX qual scope L f cdv (cells L))) Q E s := C _ _ _ _ _ _ _ _ _ _ _ B F X (arr_news N P) (arr_sep S P) T hd hu hE ret
theorem code_of_bodyC {w : World} {loose : List Str} {mean : ExcName → Option Value} {mg mb : Str → Option Value} {gd : Option (List Code)} {f : Addr} {vs : List Value} {kd ku : Nat} {news : Led} {R : (Value → Led → Prop) → Prop} {name qual : Str} {params : Arguments} {body rest : List Stmt} {st : Stmt} {scope : Scope} {dV kV doc pm cdv ct oc : Value} {an od : Option Addr} {osl : Array (Option Value)} {binds : List (Str × Value)} {m1 : Str → Option Value} {cx : Str}
    (mono : Mono R) (ho : (hd.heap_39 w.params).lookup f = some ⟨oc, od, .func (fnOf name qual params body scope dV kV doc pm an cdv ct), osl⟩) (hcd : codeIn (hd.heap_39 w.params) cdv qual = true)
    (hbind : ∀ s : Shared, (hd.heap_39 w.params).In s.heap → BindsTo s (fnOf name qual params body scope dV kV doc pm an cdv ct) ⟨vs, []⟩ binds) (hkind : (binds.all fun y => scope.names.lookup y.1 == some .local || scope.names.lookup y.1 == some .cell) = true) (hb : body = st :: rest)
    (hnd : ((cellsFrom 0 scope.names []).map (·.1)).Nodup) (hco : scope.isCoroutine = false) (hgen : scope.isGenerator = false) (hk : scope.kind = .function)
    (hm : ∀ L', bindL (envOfC qual scope L' f cdv).kindOf binds (fun _ => none) = m1) (hc : ∀ n, cellsFrom n scope.names [] = [(cx, n)]) (hcv : ∀ L', bindC (envOfC qual scope L' f cdv).kindOf binds (fun _ => none) cx = none)
    (H : ∀ oc, oc.data = .cell none → SegK w loose mean mg mb gd f qual scope cdv (fun L => cellsFrom (L + 1) scope.names []) (st :: rest) kd ku (fun _ => m1) (fun L => (L + 1, oc) :: news) R) : CodeK w loose mean mg mb gd f vs (kd + 1) (ku + 3) news R := by
  intro dp un cn cs a ccd cl outer A₀ base h₀ L m s Z B F X N S T hkk hd hu hret
  refine code_defCL B F X N T rfl rfl hkk ho hcd (by show dp < _; omega) (hbind s (X.keeps F.keep)) hkind hnd hb (fun g L' h₁ tk cells FG F' N' Y B' X' T' l1 => ?_) hco hgen hk
  rw [hc] at Y
  obtain ⟨o, rfl, ho'⟩ := CellsAre.one Y
  rw [hcv] at ho'
  rw [hm] at F'
  refine H o ho' (dp + 1) (un + 3) _ _ _ g L' m { s with heap := h₁, toks := tk } _ _ B' F' X' N' (sep_new (fun p hp => Nat.lt_succ_of_lt (l1 p hp)) S) T' (by omega) (by omega) (by passes_own) (mono _ _ (fun r nx hK fl h' tk' m' e F2 N2 S2 => ?_) hret)
  subst e
  cases fl <;> exact leaveK_ F2 N2 fun F3 N3 => hK h' tk' F3 N3 S2
end NtMine

end
-- NtSx
section
open PySem PySem.W PySem.Calls PyProof.Rows
set_option Elab.async false
namespace NtMine
set_option maxRecDepth 100000
section
variable {prog : Program} {w : World} {A : Around} {E : Value → Shared → Prop} {K : Frag} {x C dx L : Addr} {h₀ hp : Heap} {g : Array GenState} {d : Drawn} {tk : Nat} {os : OsState} {m : Str → Option Value} {news news' : Led} {es es' : List DictEntry} {n n' : Nat} {name : Str} {v : Value}
theorem sx_set {Q : Unit → Shared → Prop} (F : Fr h₀ L hp m) (X₀ : K.In h₀) (N : News h₀ L hp news) (S : Sep news) (h1 : (x, instObj C dx) ∈ news) (P : Put dx (dictOf es n) (dictOf es' n') news news')
    (e : (putL name (PyData.keyHash w.params name) (.str name (tk + 1)) v es, putN name es n) = (es', n'))
    (hs : findIn K (.ref C) "__setattr__" = some (some (.builtin "object.__setattr__"))) (hpo : plainOver K C = true) (ht : takerIn K C name = some none) (hh : hasDictIn K C = true) (hl : (getL name es).isSome = true) (hz : es'.length ≤ 1000)
    (h : ∀ h' tk', Fr h₀ L h' m → News h₀ L h' news' → Sep news' → Q () ⟨h', g, d, tk', os⟩) : wpAny (model prog w) A (setAttr (.ref x) name v) Q E ⟨hp, g, d, tk, os⟩ :=
  set_dict (s := ⟨hp, g, d, tk, os⟩) F X₀ N (InstAt.of_news N h1 P.mem) rfl hs hpo ht hh hl e (P.upd S) hz fun h' F' N' => h h' _ F' N' (P.sep S)
theorem sx_get {expr : Bool} {Q : Value → Shared → Prop} {attr : Option Value} (F : Fr h₀ L hp m) (X₀ : K.In h₀) (N : News h₀ L hp news) (h1 : (x, instObj C dx) ∈ news) (h2 : (dx, dictOf es n) ∈ news) (hg : plainGet K C name = true) (hh : hasDictIn K C = true)
    (ha : findIn K (.ref C) name = some attr) (hn : noGet K attr = true) (hl : getL name es = some (some v)) (hv : handedIn v = true) (h : Q v ⟨hp, g, d, tk + 1, os⟩) :
    wpAny (model prog w) A (getAttr (.ref x) name expr) Q E ⟨hp, g, d, tk, os⟩ :=
  get_own (s := ⟨hp, g, d, tk, os⟩) F X₀ (InstAt.of_news N h1 h2) hg hh ha hn hl hv h
theorem sx_method {pl : Sem Bool} {Q : Value × List Value → Shared → Prop} {f : Addr} (F : Fr h₀ L hp m) (X₀ : K.In h₀) (N : News h₀ L hp news) (h1 : (x, instObj C dx) ∈ news) (h2 : (dx, dictOf es n) ∈ news) (hg : plainGet K C name = true)
    (hf : findIn K (.ref C) name = some (some (.ref f))) (ht : isFn K (.ref f) = true) (hl : getL name es = some none) (h : Q (.ref f, [.ref x]) ⟨hp, g, d, tk, os⟩) : wpAny (model prog w) A (getMethod (.ref x) name pl) Q E ⟨hp, g, d, tk, os⟩ :=
  method_inst (s := ⟨hp, g, d, tk, os⟩) F X₀ (InstAt.of_news N h1 h2) hg hf ht hl h
/-- an attribute of a name's object -/
theorem sx_attr {Q : Value → Shared → Prop} {attr : Option Value} {cn : Str} {cs : Scope} {a : Addr} {ccd : Value} {cl : List (Str × Addr)} {y : Str} {p1 p2 : Pos} (F : Fr h₀ L hp m) (hy : m y = some (.ref x)) (X₀ : K.In h₀) (N : News h₀ L hp news) (h1 : (x, instObj C dx) ∈ news) (h2 : (dx, dictOf es n) ∈ news)
    (hg : plainGet K C name = true) (hh : hasDictIn K C = true) (ha : findIn K (.ref C) name = some attr) (hn : noGet K attr = true) (hl : getL name es = some (some v)) (hv : handedIn v = true) (h : Q v ⟨hp, g, d, tk + 1, os⟩)
    (hk : cs.kind = .function) (hx : (envX cn cs L a ccd cl).kindOf y = some .local) (hd : (y == ("__debug__" : Str)) = false) :
    wpAny (model prog w) A (eval (.Attribute (.Name y p1) name p2) (envX cn cs L a ccd cl)) Q E ⟨hp, g, d, tk, os⟩ :=
  Attribute_Name_ (nameX_L (s := ⟨hp, g, d, tk, os⟩) F hy (sx_get F X₀ N h1 h2 hg hh ha hn hl hv h) hk hx hd)
theorem sx_int {M : Model} {env : Env} {i : Int} {k : Nat} {pos : Pos} {Q : Value → Shared → Prop} (h : Q (.int i tk) ⟨hp, g, d, tk + 1, os⟩) : wpAny M A (eval (.Constant (.int i) k pos) env) Q E ⟨hp, g, d, tk, os⟩ := wpAny_Constant_int (s := ⟨hp, g, d, tk, os⟩) h
theorem sx_argI {M : Model} {env : Env} {i : Int} {k : Nat} {rest : List PySem.Expr} {pos p1 : Pos} {Q : List Value → Shared → Prop} (h : wpAny M A (spliced (backTo pos (starEach rest env))) (fun vs s₂ => Q (.int i tk :: vs) s₂) E ⟨hp, g, d, tk + 1, os⟩) : wpAny M A (spliced (backTo pos (starEach (.Constant (.int i) k p1 :: rest) env))) Q E ⟨hp, g, d, tk, os⟩ := args_I (s := ⟨hp, g, d, tk, os⟩) h
theorem sx_argI1 {M : Model} {env : Env} {i : Int} {k : Nat} {pos p1 : Pos} {Q : List Value → Shared → Prop} (h : Q [.int i tk] ⟨hp, g, d, tk + 1, os⟩) : wpAny M A (spliced (backTo pos (starEach [.Constant (.int i) k p1] env))) Q E ⟨hp, g, d, tk, os⟩ := args_I1 (s := ⟨hp, g, d, tk, os⟩) h
theorem sx_subI {M : Model} {i : Int} {k : Nat} {cn : Str} {cs : Scope} {a : Addr} {ccd : Value} {cl : List (Str × Addr)} {y : Str} {p1 p2 p3 : Pos} {Q : Value → Shared → Prop} (F : Fr h₀ L hp m) (hv : m y = some v) (hl : locB (envX cn cs L a ccd cl) y = true) (h : wpAny M A (subscriptTail (.Name y p1) (.Constant (.int i) k p2) v (.int i tk)) Q E ⟨hp, g, d, tk + 1, os⟩) :
    wpAny M A (eval (.Subscript (.Name y p1) (.Constant (.int i) k p2) p3) (envX cn cs L a ccd cl)) Q E ⟨hp, g, d, tk, os⟩ := sub_LI (s := ⟨hp, g, d, tk, os⟩) F hv hl h
theorem sx_binI {M : Model} {i : Int} {k : Nat} {op : Operator} {cn : Str} {cs : Scope} {a : Addr} {ccd : Value} {cl : List (Str × Addr)} {y : Str} {p1 p2 p3 : Pos} {Q : Value → Shared → Prop} (F : Fr h₀ L hp m) (hv : m y = some v) (hl : locB (envX cn cs L a ccd cl) y = true) (h : wpAny M A (binaryOp op v (.int i tk)) Q E ⟨hp, g, d, tk + 1, os⟩) :
    wpAny M A (eval (.BinOp (.Name y p1) op (.Constant (.int i) k p2) p3) (envX cn cs L a ccd cl)) Q E ⟨hp, g, d, tk, os⟩ := bin_LI (s := ⟨hp, g, d, tk, os⟩) F hv hl h
theorem sx_istI {M : Model} {i : Int} {k : Nat} {op : CmpOp} {whole : Sem Value} {cn : Str} {cs : Scope} {a : Addr} {ccd : Value} {cl : List (Str × Addr)} {y : Str} {p1 p2 p3 : Pos} {Q : Bool → Shared → Prop} (F : Fr h₀ L hp m) (hv : m y = some v) (hl : locB (envX cn cs L a ccd cl) y = true) (h : wpAny M A (compareOp op v (.int i tk)) (fun c s₃ => wpAny M A (truthy c) Q E s₃) E ⟨hp, g, d, tk + 1, os⟩)
    (hm : behindInMarks op (.Constant (.int i) k p2) = false) : wpAny M A (isTrue (.Compare (.Name y p1) [op] [.Constant (.int i) k p2] p3) (envX cn cs L a ccd cl) whole) Q E ⟨hp, g, d, tk, os⟩ := ist_LI (s := ⟨hp, g, d, tk, os⟩) F hv hl h hm
theorem sx_str {M : Model} {env : Env} {b : Str} {k : Nat} {pos : Pos} {Q : Value → Shared → Prop} (h : Q (.str b tk) ⟨hp, g, d, tk + 1, os⟩) : wpAny M A (eval (.Constant (.str b) k pos) env) Q E ⟨hp, g, d, tk, os⟩ := wpAny_Constant_str (s := ⟨hp, g, d, tk, os⟩) h
theorem sx_bytes {M : Model} {env : Env} {b : List UInt8} {k : Nat} {pos : Pos} {Q : Value → Shared → Prop} (h : Q (.bytes b.toArray tk) ⟨hp, g, d, tk + 1, os⟩) : wpAny M A (eval (.Constant (.bytes b) k pos) env) Q E ⟨hp, g, d, tk, os⟩ := Constant_bytes (s := ⟨hp, g, d, tk, os⟩) h
theorem sx_newList {M : Model} {vs : List Value} {Q : Value → Shared → Prop} (F : Fr h₀ L hp m) (N : News h₀ L hp news) (S : Sep news) (hz : vs.length ≤ sizeLine)
    (h : ∀ l h', Fr h₀ L h' m → News h₀ L h' ((l, listOf vs.toArray 0) :: news) → Sep ((l, listOf vs.toArray 0) :: news) → Q (.ref l) ⟨h', g, d, tk, os⟩) : wpAny M A (newList vs) Q E ⟨hp, g, d, tk, os⟩ :=
  newList_K (s := ⟨hp, g, d, tk, os⟩) F N (fun l h' F' N' l1 => h l h' F' N' (sep_new l1 S)) hz
theorem sx_newTuple {M : Model} {vs : List Value} {Q : Value → Shared → Prop} (F : Fr h₀ L hp m) (N : News h₀ L hp news) (S : Sep news) (hz : vs.length ≤ sizeLine)
    (h : ∀ l h', Fr h₀ L h' m → News h₀ L h' ((l, ({ cls := .type "tuple", data := .seq vs.toArray } : Obj)) :: news) → Sep ((l, ({ cls := .type "tuple", data := .seq vs.toArray } : Obj)) :: news) → Q (.ref l) ⟨h', g, d, tk, os⟩) : wpAny M A (newTuple vs) Q E ⟨hp, g, d, tk, os⟩ :=
  kup_newTuple (s := ⟨hp, g, d, tk, os⟩) F N (fun l h' F' N' l1 => h l h' F' N' (sep_new l1 S)) hz
theorem sx_newDict {env : Env} {pos : Pos} {Q : Value → Shared → Prop} (F : Fr h₀ L hp m) (N : News h₀ L hp news) (S : Sep news) (hbig : h₀.NoLimit)
    (h : ∀ l h' o, Fr h₀ L h' m → News h₀ L h' ((l, o) :: news) → Sep ((l, o) :: news) → Q (.ref l) ⟨h', g, d, tk, os⟩) : wpAny (model prog w) A (eval (.Dict [] [] pos) env) Q E ⟨hp, g, d, tk, os⟩ :=
  newDict_K (s := ⟨hp, g, d, tk, os⟩) F N hbig fun l h' o F' N' l1 _ _ _ _ _ => h l h' o F' N' (sep_new l1 S)
theorem sx_store {M : Model} {cn : Str} {cs : Scope} {a : Addr} {ccd : Value} {cl : List (Str × Addr)} {y : Str} {Q : Unit → Shared → Prop} (F : Fr h₀ L hp m) (N : News h₀ L hp news)
    (h : ∀ h' tk', Fr h₀ L h' (fun z => if z = y then some v else m z) → News h₀ L h' news → Q () ⟨h', g, d, tk', os⟩)
    (hk : cs.kind = .function) (hx : (envX cn cs L a ccd cl).kindOf y = some .local) : wpAny M A (storeName (envX cn cs L a ccd cl) y v) Q E ⟨hp, g, d, tk, os⟩ :=
  storeX_L (s := ⟨hp, g, d, tk, os⟩) F N (fun h' F' N' => h h' _ F' N') hk hx
end
section
variable {prog : Program} {w : World} {A : Around} {E : Value → Shared → Prop} {K : Frag} {D b L : Addr} {h₀ hp : Heap} {g : Array GenState} {d : Drawn} {tk : Nat} {os : OsState} {m : Str → Option Value} {news news' : Led} {vs ws : List Value} {n n2 : Nat} {v : Value} {u : Tok} {Q : Value → Shared → Prop}
noncomputable abbrev made (h₀ : Heap) (L : Addr) (m : Str → Option Value) (news : Led) (g : Array GenState) (d : Drawn) (tk : Nat) (os : OsState) (Q : Value → Shared → Prop) (ws : List Value) : Prop :=
  ∀ B c h', Fr h₀ L h' m → News h₀ L h' ((B, listOf ws.toArray c) :: news) → Sep ((B, listOf ws.toArray c) :: news) → Q (.ref B) ⟨h', g, d, tk, os⟩
theorem sx_mul {x : Int} (F : Fr h₀ L hp m) (N : News h₀ L hp news) (S : Sep news) (hm : (D, listOf [v].toArray n) ∈ news) (hlo : -1000 ≤ x) (hhi : x ≤ 256)
    (h : made h₀ L m news g d tk os Q (List.replicate x.toNat v)) : wpAny (model prog w) A (binaryOp .Mult (.ref D) (.int x u)) Q E ⟨hp, g, d, tk, os⟩ :=
  nt_mulN (s := ⟨hp, g, d, tk, os⟩) F N hm hlo hhi fun B h' F' N' l1 => h B 0 h' F' N' (sep_new l1 S)
theorem sx_addL (F : Fr h₀ L hp m) (N : News h₀ L hp news) (S : Sep news) (hm : (D, listOf vs.toArray n) ∈ news) (hm' : (b, listOf ws.toArray n2) ∈ news) (h1 : vs.length ≤ 10000) (h2 : ws.length ≤ 10000)
    (h : made h₀ L m news g d tk os Q (vs ++ ws)) : wpAny (model prog w) A (binaryOp .Add (.ref D) (.ref b)) Q E ⟨hp, g, d, tk, os⟩ :=
  nt_addL (s := ⟨hp, g, d, tk, os⟩) F N hm hm' h1 h2 fun B h' F' N' l1 => h B 0 h' F' N' (sep_new l1 S)
theorem sx_listOf (F : Fr h₀ L hp m) (N : News h₀ L hp news) (S : Sep news) (hb : (b, listOf ws.toArray n2) ∈ news) (hz : ws.length ≤ 10000)
    (h : made h₀ L m news g d tk os Q ws) : wpAny (model prog w) A (call (.type "list") [.ref b]) Q E ⟨hp, g, d, tk, os⟩ :=
  kup_listOf (s := ⟨hp, g, d, tk, os⟩) (zs := ws) F N hb rfl (fun B c h' F' N' l1 => h B c h' F' N' (sep_new l1 S)) (by rw [sizeLine_eq]; exact Nat.le_trans hz (by decide))
theorem sx_append (F : Fr h₀ L hp m) (N : News h₀ L hp news) (S : Sep news) (P : Put D (listOf vs.toArray n) (listOf (vs ++ [v]).toArray (n + 1)) news news') (hb : vs.length ≤ 100000)
    (h : ∀ h', Fr h₀ L h' m → News h₀ L h' news' → Sep news' → Q .none ⟨h', g, d, tk, os⟩) : wpAny (model prog w) A (call (.builtin "list.append") [.ref D, v]) Q E ⟨hp, g, d, tk, os⟩ :=
  nt_append (s := ⟨hp, g, d, tk, os⟩) F N (P.upd S) hb fun h' F' N' => h h' F' N' (P.sep S)
theorem sx_insert {k : Int} (F : Fr h₀ L hp m) (N : News h₀ L hp news) (S : Sep news) (P : Put D (listOf vs.toArray n) (listOf ws.toArray (n + 1)) news news') (e : vs.take k.toNat ++ v :: vs.drop k.toNat = ws) (hb : vs.length ≤ 100000) (h0 : 0 ≤ k) (h1 : k ≤ vs.length)
    (h : ∀ h', Fr h₀ L h' m → News h₀ L h' news' → Sep news' → Q .none ⟨h', g, d, tk, os⟩) : wpAny (model prog w) A (call (.builtin "list.insert") [.ref D, .int k u, v]) Q E ⟨hp, g, d, tk, os⟩ := by
  subst e
  exact nt_insert (s := ⟨hp, g, d, tk, os⟩) F N (P.upd S) hb h0 h1 fun h' F' N' => h h' F' N' (P.sep S)
theorem sx_ins0 {y : Value} (F : Fr h₀ L hp m) (N : News h₀ L hp news) (S : Sep news) (P : Put D (listOf ws.toArray n) (listOf (y :: ws).toArray (n + 1)) news news') (hb : ws.length ≤ 100000)
    (h : ∀ h', Fr h₀ L h' m → News h₀ L h' news' → Sep news' → Q .none ⟨h', g, d, tk, os⟩) : wpAny (model prog w) A (call (.builtin "list.insert") [.ref D, .int 0 u, y]) Q E ⟨hp, g, d, tk, os⟩ :=
  sx_insert (k := 0) F N S P rfl hb (by decide) (by omega) h
theorem sx_ins1 {y : Value} (F : Fr h₀ L hp m) (N : News h₀ L hp news) (S : Sep news) (P : Put D (listOf (v :: ws).toArray n) (listOf (v :: y :: ws).toArray (n + 1)) news news') (hb : ws.length ≤ 10000)
    (h : ∀ h', Fr h₀ L h' m → News h₀ L h' news' → Sep news' → Q .none ⟨h', g, d, tk, os⟩) : wpAny (model prog w) A (call (.builtin "list.insert") [.ref D, .int 1 u, y]) Q E ⟨hp, g, d, tk, os⟩ :=
  sx_insert (k := 1) (vs := v :: ws) F N S P rfl (by rw [List.length_cons]; omega) (by decide) (by rw [List.length_cons]; omega) h
theorem sx_pop0 (F : Fr h₀ L hp m) (N : News h₀ L hp news) (S : Sep news) (P : Put D (listOf (v :: ws).toArray n) (listOf ws.toArray (n + 1)) news news') (hb : ws.length ≤ 10000)
    (h : ∀ h', Fr h₀ L h' m → News h₀ L h' news' → Sep news' → Q v ⟨h', g, d, tk, os⟩) : wpAny (model prog w) A (call (.builtin "list.pop") [.ref D, .int 0 u]) Q E ⟨hp, g, d, tk, os⟩ :=
  nt_popAt (s := ⟨hp, g, d, tk, os⟩) (k := 0) (vs := v :: ws) F N (P.upd S) (by rw [List.length_cons]; omega) (Int.le_refl 0) (by rw [List.length_cons]; omega) fun y h' hy F' N' => by
    have e : v = y := Option.some.inj hy
    rw [← e]
    exact h h' F' N' (P.sep S)
theorem sx_setI {k : Int} {Q : Unit → Shared → Prop} (F : Fr h₀ L hp m) (N : News h₀ L hp news) (S : Sep news) (P : Put D (listOf vs.toArray n) (listOf ws.toArray n) news news') (e : vs.set k.toNat v = ws) (hb : vs.length ≤ 100000) (h0 : 0 ≤ k) (h1 : k < vs.length)
    (h : ∀ h', Fr h₀ L h' m → News h₀ L h' news' → Sep news' → Q () ⟨h', g, d, tk, os⟩) : wpAny (model prog w) A (setItem (.ref D) (.int k u) v) Q E ⟨hp, g, d, tk, os⟩ := by
  subst e
  exact nt_set (s := ⟨hp, g, d, tk, os⟩) F N (P.upd S) hb h0 h1 fun h' F' N' => h h' F' N' (P.sep S)
theorem sx_slice {value slice : PySem.Expr} {vl vu : Value} {lo hi : Option Int} (F : Fr h₀ L hp m) (N : News h₀ L hp news) (S : Sep news) (hm : (D, listOf vs.toArray n) ∈ news) (pl : IsPart vl lo) (pu : IsPart vu hi) (e : slicePick vs.toArray lo hi none = ws.toArray) (hb : vs.length ≤ 100000)
    (h : made h₀ L m news g d tk os Q ws)
    (hs : subscripted slice false (.ref D) (.ref hp.objs.size) = operate [.ref hp.objs.size, .ref D] (getItem (.ref D) (.ref hp.objs.size))) (ht : ∀ r, letTemporaryGo value (.ref D) r = pure ()) :
    wpAny (model prog w) A (subscriptTail value slice (.ref D) (.ref hp.objs.size)) Q E ⟨hp.push { cls := .type "slice", data := .fields #[vl, vu, .none] }, g, d, tk, os⟩ :=
  nt_slice (s := ⟨hp, g, d, tk, os⟩) F N hm pl pu e hb (fun B h' F' N' l1 => h B 0 h' F' N' (sep_new l1 S)) hs ht
theorem sx_len {k : Nat} (N : News h₀ L hp news) (hm : (D, listOf vs.toArray n) ∈ news) (hk : vs.length = k) (hb : k ≤ 100000)
    (h : Q (.int k (tk + 1)) ⟨hp, g, d, tk + 1 + 1, os⟩) : wpAny (model prog w) A (call (.builtin "len") [.ref D]) Q E ⟨hp, g, d, tk, os⟩ := nt_len (s := ⟨hp, g, d, tk, os⟩) N hm (by omega) (by rw [hk]; exact h)
end
theorem sep_comp {I C D : Addr} {oI oC oD : Obj} : ∀ {l : Led}, Sep l → LCg.Off3 I C D l → ((@Ne Nat I C) ∧ (@Ne Nat I D) ∧ (@Ne Nat C D)) → Sep ((I, oI) :: (C, oC) :: (D, oD) :: l) := fun {l} S off ne => by
  have o : ∀ l : Led, LCg.Off3 I C D l → ∀ q ∈ l, (@Ne Nat q.1 I) ∧ (@Ne Nat q.1 C) ∧ (@Ne Nat q.1 D) := by
    intro l
    induction l with
    | nil => exact fun _ _ h => nomatch h
    | cons p r ih =>
      intro h q hq
      rcases List.mem_cons.mp hq with rfl | hq
      · exact h.1
      · exact ih h.2 q hq
  refine ⟨fun q hq => ?_, fun q hq => ?_, fun q hq => (o l off q hq).2.2, S⟩
  · rcases List.mem_cons.mp hq with rfl | hq
    · exact Ne.symm ne.1
    · rcases List.mem_cons.mp hq with rfl | hq
      · exact Ne.symm ne.2.1
      · exact (o l off q hq).1
  · rcases List.mem_cons.mp hq with rfl | hq
    · exact Ne.symm ne.2.2
    · exact (o l off q hq).2.1
theorem off_comp {I C D : Addr} {oI oC oD : Obj} {l : Led} (S : Sep ((I, oI) :: (C, oC) :: (D, oD) :: l)) : LCg.Off3 I C D l :=
  LCg.Off3.of fun q hq => ⟨S.1 q (.tail _ (.tail _ hq)), S.2.1 q (.tail _ hq), S.2.2.1 q hq⟩
theorem sep_fin {D : Addr} {oD : Obj} : ∀ {l : Led}, Sep l → LCg.Off1 D l → Sep ((D, oD) :: l)
  | [], _, _ => ⟨fun _ h => (nomatch h), trivial⟩
  | p :: r, S, o => ⟨fun q hq => by
      rcases List.mem_cons.mp hq with rfl | hq
      · exact o.1
      · exact (sep_fin (oD := oD) S.2 o.2).1 q hq, S⟩
section
variable {prog : Program} {w : World} {A : Around} {h₀ hp : Heap} {L : Addr} {m : Str → Option Value} {env : Env} {elt : PySem.Expr} {x : Str} {scope : Scope} {cl : List (Str × Addr)} {g : Array GenState} {d : Drawn} {tk : Nat} {os : OsState} {S' : Led → Prop} {Fin : List Value → Led → Prop} {k i : Nat} {ys : List Value} {news : Led}
theorem sx_turnR {a : Int} (S : Sep news)
    (h : ∀ t I oI C oC D m₂ h tk' (E' : Value → Shared → Prop), LCg.NsObj oC m₂ → m₂ x = some (.int (a + (i : Int)) t) → Fr h₀ L h m → News h₀ L h ((I, oI) :: (C, oC) :: (D, LCg.lst ys) :: news) → Sep ((I, oI) :: (C, oC) :: (D, LCg.lst ys) :: news) →
      wpAny (model prog w) A (eval elt (compEnvC scope cl C env)) (LCg.CompEnd h₀ L m ⟨h, g, d, tk', os⟩ I oI C oC D (LCg.lst ys) S' (fun y news' => LCg.CompRest prog w A h₀ L m env elt x scope cl ⟨hp, g, d, tk, os⟩ S' (fun i v => ∃ t, v = .int (a + (i : Int)) t) Fin k (i + 1) (ys ++ [y]) news')) E' ⟨h, g, d, tk', os⟩) :
    LCg.CompRest prog w A h₀ L m env elt x scope cl ⟨hp, g, d, tk, os⟩ S' (fun i v => ∃ t, v = .int (a + (i : Int)) t) Fin (k + 1) i ys news :=
  .succ fun v I oI C oC D m₂ hh tk' E' hv hC hx F N off ne => by
    obtain ⟨t, rfl⟩ := hv
    exact h t I oI C oC D m₂ hh tk' E' hC hx F N (sep_comp S off ne)
theorem sx_end {I C D : Addr} {oI oC oD : Obj} {rest : Value → Led → Prop} {y : Value} {hp' : Heap} {tk' : Nat} (F : Fr h₀ L hp' m) (N : News h₀ L hp' ((I, oI) :: (C, oC) :: (D, oD) :: news)) (S : Sep ((I, oI) :: (C, oC) :: (D, oD) :: news)) (hS : S' news) (r : Sep news → rest y news) :
    LCg.CompEnd h₀ L m ⟨hp, g, d, tk, os⟩ I oI C oC D oD S' rest y ⟨hp', g, d, tk', os⟩ := LCg.CompEnd.intro (s₁ := ⟨hp, g, d, tk, os⟩) F N news (fun _ h => h) (off_comp S) hS (r S.2.2.2)
theorem sx_fin {Q : Value → Shared → Prop} (S : Sep news) (h : ∀ D h tk', Fr h₀ L h m → News h₀ L h ((D, LCg.lst ys) :: news) → Sep ((D, LCg.lst ys) :: news) → Q (.ref D) ⟨h, g, d, tk', os⟩) : LCg.FinE h₀ L m ⟨hp, g, d, tk, os⟩ Q ys news :=
  fun D h' tk' F N off => h D h' tk' F N (sep_fin S off)
end
/-- one object to be set -/
inductive PutF (d : Addr) (o : Obj) : Led → (Obj → Led) → Prop
  | head {r : Led} : PutF d o ((d, o) :: r) (fun o' => (d, o') :: r)
  | tail {p : Addr × Obj} {r : Led} {g : Obj → Led} : PutF d o r g → PutF d o (p :: r) (fun o' => p :: g o')
theorem PutF.put {d : Addr} {o : Obj} {l : Led} {g : Obj → Led} (P : PutF d o l g) (o' : Obj) : Put d o o' l (g o') := by
  induction P with
  | head => exact .head
  | tail _ ih => exact .tail ih
theorem PutF.mem {d : Addr} {o : Obj} {l : Led} {g : Obj → Led} (P : PutF d o l g) : (d, o) ∈ l := (P.put o).mem
theorem PutF.upd {d : Addr} {o : Obj} {l : Led} {g : Obj → Led} (P : PutF d o l g) (S : Sep l) : UpdF d o l g := by
  induction P with
  | head => exact .head S.1
  | tail P ih => exact .tail (fun e => S.1 _ P.mem e.symm) (ih S.2)
theorem sx_storeC {M : Model} {A : Around} {E : Value → Shared → Prop} {h₀ hp : Heap} {L c : Addr} {o : Obj} {m : Str → Option Value} {news : Led} {gl : Obj → Led} {g : Array GenState} {d : Drawn} {tk : Nat} {os : OsState} {v : Value} {v₀ : Option Value} {cn : Str} {cs : Scope} {a : Addr} {ccd : Value} {cl : List (Str × Addr)} {y : Str} {Q : Unit → Shared → Prop} (F : Fr h₀ L hp m) (N : News h₀ L hp news) (S : Sep news) (hc : cl.lookup y = some c) (P : PutF c o news gl) (hd : o.data = .cell v₀)
    (h : ∀ h' o', Fr h₀ L h' m → News h₀ L h' (gl o') → Sep (gl o') → o'.data = .cell (some v) → Q () ⟨h', g, d, tk, os⟩)
    (hk : cs.kind = .function) (hx : (envX cn cs L a ccd cl).kindOf y = some .cell) : wpAny M A (storeName (envX cn cs L a ccd cl) y v) Q E ⟨hp, g, d, tk, os⟩ :=
  storeX_C (s := ⟨hp, g, d, tk, os⟩) F N hc (P.upd S) hd (fun h' o' F' N' e => h h' o' F' N' ((P.put o').sep S) e) hk hx
theorem drop1 {h₀ h : Heap} {L : Addr} {p : Addr × Obj} {l : Led} (N : News h₀ L h (p :: l)) : News h₀ L h l := fun q hq => N q (.tail _ hq)
theorem sdrop1 {p : Addr × Obj} {l : Led} (S : Sep (p :: l)) : Sep l := S.2
end NtMine

end
-- NtLike
section
open PySem PySem.W PySem.Calls PyProof.Rows PySem.SeqAt
set_option Elab.async false
namespace NtMine
/-- two values that are one by == -/
inductive Like : Value → Value → Prop
  | int (i : Int) (t u : Tok) : Like (.int i t) (.int i u)
  | bytes (b : List UInt8) (t u : Tok) : Like (.bytes b.toArray t) (.bytes b.toArray u)
  | refl (v : Value) : Like v v
inductive LikeAll : List Value → List Value → Prop
  | nil : LikeAll [] []
  | cons {v w : Value} {vs ws : List Value} : Like v w → LikeAll vs ws → LikeAll (v :: vs) (w :: ws)
theorem LikeAll.length {vs ws : List Value} (h : LikeAll vs ws) : vs.length = ws.length := by
  induction h with
  | nil => rfl
  | cons _ _ ih => rw [List.length_cons, List.length_cons, ih]
theorem LikeAll.at {vs ws : List Value} (h : LikeAll vs ws) : ∀ (j : Nat) (h1 : j < vs.length) (h2 : j < ws.length), Like vs[j] ws[j] := by
  induction h with
  | nil => exact fun j h1 _ => absurd h1 (Nat.not_lt_zero _)
  | cons l _ ih =>
    intro j h1 h2
    cases j with
    | zero => exact l
    | succ j => exact ih j (Nat.lt_of_succ_lt_succ h1) (Nat.lt_of_succ_lt_succ h2)
theorem eqAt_bytes {A : Around} {s : Shared} (b : List UInt8) (t u : Tok) : EqAt A s (.bytes b.toArray t) (.bytes b.toArray u) true := fun prog w E Q h => by
  unfold eqBool
  refine wpAny_holding ?_
  refine wpAny_ite_split (fun _ => wpAny_bind (wpAny_rule (wpAny_pure h))) (fun _ => wpAny_bind ?_)
  refine eq_bytes (Q := fun v s₁ => wpAny _ A (truthOfDropped v) Q E s₁) ?_
  rw [beq_self_eq_true]
  exact wpAny_truthy_bool h
theorem eqAt_like {A : Around} {s : Shared} {v w : Value} (l : Like v w) : EqAt A s v w true := by
  cases l with
  | int i t u =>
    have := EqAt.int_int (A := A) (s := s) i t i u
    rw [beq_self_eq_true] at this
    exact this
  | bytes b t u => exact eqAt_bytes b t u
  | refl => exact EqAt.same v
noncomputable abbrev tupOf (vs : List Value) (n : Nat) : Obj := { cls := .type "tuple", data := .seq vs.toArray n }
section
variable {prog : Program} {w : World} {A : Around} {E : Value → Shared → Prop} {s : Shared} {h₀ : Heap} {L a b : Addr} {news : Led} {vs ws : List Value} {n n2 : Nat} {Q : Value → Shared → Prop}
theorem all_true : ∀ k : Nat, ((List.range k).all fun _ => true) = true := fun k => by simp
theorem like_at (H : LikeAll vs ws) : ∀ j (h1 : j < vs.toArray.size) (h2 : j < ws.toArray.size), EqAt A s vs.toArray[j] ws.toArray[j] true := fun j h1 h2 => by
  have := eqAt_like (A := A) (s := s) (H.at j (by simpa using h1) (by simpa using h2))
  simpa using this
theorem nt_neT (N : News h₀ L s.heap news) (h1 : (a, tupOf vs n) ∈ news) (h2 : (b, tupOf ws n2) ∈ news) (H : LikeAll vs ws) (hu : A.units < cLine) (h : Q (.bool false) s) : wpAny (model prog w) A (compareOp .NotEq (.ref a) (.ref b)) Q E s :=
  RcNeAt.tuples (e := fun _ => true) ⟨_, (N _ h1).1, rfl, n, rfl⟩ ⟨_, (N _ h2).1, rfl, n2, rfl⟩ hu (like_at H) prog w E Q (by rw [all_true, List.size_toArray, List.size_toArray, H.length]; simpa using h)
theorem nt_eqL (N : News h₀ L s.heap news) (h1 : (a, listOf vs.toArray n) ∈ news) (h2 : (b, listOf ws.toArray n2) ∈ news) (H : LikeAll vs ws) (hu : A.units < cLine) (h : Q (.bool true) s) : wpAny (model prog w) A (compareOp .Eq (.ref a) (.ref b)) Q E s :=
  RcAt.lists (e := fun _ => true) ⟨_, (N _ h1).1, rfl, n, rfl⟩ ⟨_, (N _ h2).1, rfl, n2, rfl⟩ (by rw [List.size_toArray, List.size_toArray, H.length]) hu (like_at H) prog w E Q (by rw [all_true]; exact h)
theorem nt_neL (N : News h₀ L s.heap news) (h1 : (a, listOf vs.toArray n) ∈ news) (h2 : (b, listOf ws.toArray n2) ∈ news) (H : LikeAll vs ws) (hu : A.units < cLine) (h : Q (.bool false) s) : wpAny (model prog w) A (compareOp .NotEq (.ref a) (.ref b)) Q E s :=
  RcNeAt.lists (e := fun _ => true) ⟨_, (N _ h1).1, rfl, n, rfl⟩ ⟨_, (N _ h2).1, rfl, n2, rfl⟩ (by rw [List.size_toArray, List.size_toArray, H.length]) hu (like_at H) prog w E Q (by rw [all_true]; exact h)
end
end NtMine

end
-- NtMake
section
theorem NtMine.InNtMake.YesNtMake.here : True := True.intro
open NtMine.InNtMake
open PySem PySem.W PySem.Calls PyProof.Rows NtMine in
set_option maxRecDepth 100000 in
theorem NtMine.lines_24 (P : Params) : (PySem.Challenge.rw_nt0650_01, hd.heap_39 P).1 = PySem.Challenge.rw_nt0650_01 := by
  k_fill
  k_with "nt_put" => (first | with_reducible exact Put.head | (refine' Put.tail ?nta; (case nta => k_extra "nt_put")) | with_reducible assumption)
  k_with "nt_kis" => (first | with_reducible assumption | k_is)
  k_with "setAttr ref" => (k_here; k_dflt (refine' sx_set ?k1 ?k2 ?k3 ?kS ?k4 ?kP ?ke ?k6 ?k7 ?k8 ?k9 ?k10 ?k13 ?_; (case k1 => k_asm); (case k2 => k_asm); (case k3 => k_asm); (case kS => k_asm); (case k4 => k_extra "nt_mem"); (case kP => k_extra "nt_put"); (case ke => k_put); (case k6 => k_extra "nt_kis"); (case k7 => k_extra "nt_kis"); (case k8 => k_extra "nt_kis"); (case k9 => k_extra "nt_kis"); (case k10 => k_get); (case k13 => exact Nat.le_of_ble_eq_true rfl); k_whole); intro h' tk' F' N' S'; (try k_sweep))
  k_with "getAttr ref" => (k_here; k_dflt (refine' sx_get ?k1 ?k2 ?k3 ?m1 ?m2 ?k4 ?k5 ?k6 ?k7 ?k8 ?k9 ?_; (case k1 => k_asm); (case k2 => k_asm); (case k3 => k_asm); (case m1 => k_extra "nt_mem"); (case m2 => k_extra "nt_mem"); (case k4 => k_extra "nt_kis"); (case k5 => k_extra "nt_kis"); (case k6 => k_extra "nt_kis"); (case k7 => k_extra "nt_kis"); (case k8 => k_extra "nt_kget"); (case k9 => first | with_reducible assumption | k_handed); k_whole))
  k_with "eval Attribute Name" => (k_here; k_dflt (refine' sx_attr ?k1 ?ky ?k2 ?k3 ?m1 ?m2 ?k4 ?k5 ?k6 ?k7 ?k8 ?k9 ?_ ?a ?b ?c; (case k1 => k_asm); (case ky => exact rfl); (case k2 => k_asm); (case k3 => k_asm); (case m1 => k_extra "nt_mem"); (case m2 => k_extra "nt_mem"); (case k4 => k_extra "nt_kis"); (case k5 => k_extra "nt_kis"); (case k6 => k_extra "nt_kis"); (case k7 => k_extra "nt_kis"); (case k8 => k_extra "nt_kget"); (case k9 => first | with_reducible assumption | k_handed); (case a => exact rfl); (case b => exact rfl); (case c => decide); k_whole))
  k_with "eval Constant int" => (k_dflt (refine sx_int ?_))
  k_with "nt_body" => ((case ho => k_is); (case hcd => k_is); (case hb => exact rfl); (case hbind => (intro s' X'; exact BindsTo.of_eq rfl)); (case hloc => exact locs rfl); (case c1 => exact rfl); (case c2 => exact rfl); (case c3 => exact rfl); (case c4 => decide))
  k_with "nt_make" => ((case hm => k_is); (case hi => k_is); (case hf => k_is); (case ho => k_is); (case hcd => k_is); (case hb => exact rfl); (case hbind => (intro x' s' X'; first | exact BindsTo.of_eq rfl | exact binds_K X' rfl (by k_is) rfl rfl rfl)); (case hloc => (intro x'; exact locs rfl)); (case c1 => exact rfl); (case c2 => exact rfl); (case c3 => exact rfl); (case c4 => decide))
  k_with "nt_room" => (first | exact Nat.lt_of_le_of_lt (Nat.add_le_add_left (Nat.le_of_ble_eq_true rfl) _) (by assumption) | omega)
  k_with "nt_go" => (repeat' (first | (k_unfold; (try dsimp only)) | walk1 | (dsimp only; walk1)))
  k_with "nt_cu" => ((case kB => k_asm); (case kF => k_asm); (case kX => k_asm); (case kT => k_asm); (case kk => exact rfl); (case kd => k_extra "nt_room"); (case ku => k_extra "nt_room"))
  k_with "eval Constant str" => (k_dflt (refine sx_str ?_))
  k_with "newList" => (k_here; k_dflt (refine' sx_newList ?k1 ?k2 ?k3 ?k4 ?_; (case k1 => k_asm); (case k2 => k_asm); (case k3 => k_asm); (case k4 => size_fits); k_whole); intro l' h' F' N' S'; (try k_sweep))
  k_with "newTuple" => (k_here; k_dflt (refine' sx_newTuple ?k1 ?k2 ?k3 ?k4 ?_; (case k1 => k_asm); (case k2 => k_asm); (case k3 => k_asm); (case k4 => size_fits); k_whole); intro l' h' F' N' S'; (try k_sweep))
  k_with "eval Dict nil nil" => (k_here; k_dflt (refine' sx_newDict ?k1 ?k2 ?k3 (TopRead.nolimit (by k_asm)) ?_; (case k1 => k_asm); (case k2 => k_asm); (case k3 => k_asm); k_whole); intro l' h' o' F' N' S'; (try k_sweep))
  k_with "storeName" => (k_here; k_dflt (refine' sx_store ?k1 ?k2 ?_ ?a ?b; (case k1 => k_asm); (case k2 => k_asm); (case a => exact rfl); (case b => exact rfl); k_whole); intro h' tk' F' N'; (try k_sweep))
  k_with "nt_arr" => (first | with_reducible exact Arr.refl | (refine' Arr.cons ?nta ?ntb; (case nta => k_extra "nt_pick1"); (case ntb => k_extra "nt_arr")) | (refine' Arr.drop ?nta; (case nta => k_extra "nt_arr")))
  k_with "nt_pick1" => (first | k_extra "nt_pickR" | k_extra "nt_pickD")
  k_with "nt_pickR" => (first | with_reducible exact Pick.head | (refine' Pick.tail ?nta; (case nta => k_extra "nt_pickR")))
  k_with "nt_pickD" => (first | k_dflt exact Pick.head | (refine' Pick.tail ?nta; (case nta => k_extra "nt_pickD")))
  k_with "nt_use0" => ((case kB => k_asm); (case kF => k_asm); (case kX => k_asm); (case kN => k_asm); (case kS => k_asm); (case kP => k_extra "nt_arr"); (case kT => k_asm); (case kk => first | exact rfl | assumption); (case kd => k_extra "nt_room"); (case ku => k_extra "nt_room"))
  k_with "nt_init" => (k_dflt (refine' code_use (init_says ?ok ?hx) ?kB ?kF ?kX ?kN ?kS ?kP ?kT ?kk ?kd ?ku ?_; k_extra "nt_use0"; (case hx => k_extra "nt_mem"); (case ok => first | exact ok456 | exact ok504 | exact ok523 | exact ok794 | exact ok842 | exact ok677 | exact ok408); k_whole))
  k_with "binaryOp Mult ref int" => (k_here; k_dflt (refine' sx_mul ?k1 ?k2 ?k3 ?k4 ?k5 ?k6 ?_; (case k1 => k_asm); (case k2 => k_asm); (case k3 => k_asm); (case k4 => k_extra "nt_mem"); (case k5 => decide); (case k6 => decide); k_whole); intro l' c' h' F' N' S'; (try k_sweep))
  k_with "binaryOp Add ref ref" => (k_here; k_dflt (refine' sx_addL ?k1 ?k2 ?k3 ?k4 ?k5 ?k6 ?k7 ?_; (case k1 => k_asm); (case k2 => k_asm); (case k3 => k_asm); (case k4 => k_extra "nt_mem"); (case k5 => k_extra "nt_mem"); (case k6 => k_extra "nt_small"); (case k7 => k_extra "nt_small"); k_whole); intro l' c' h' F' N' S'; (try k_sweep))
  k_with "call type:list" => (k_here; k_dflt (refine' sx_listOf ?k1 ?k2 ?k3 ?k4 ?k5 ?_; (case k1 => k_asm); (case k2 => k_asm); (case k3 => k_asm); (case k4 => k_extra "nt_mem"); (case k5 => k_extra "nt_small"); k_whole); intro l' c' h' F' N' S'; (try k_sweep))
  k_with "nt_small" => (first | exact Nat.le_of_ble_eq_true rfl | with_reducible assumption | omega | ((simp only [List.length_append, List.length_take, List.length_cons, List.length_nil]); omega))
  k_with "call builtin:list.append" => (k_here; k_dflt (refine' sx_append ?k1 ?k2 ?k3 ?kP ?k4 ?_; (case k1 => k_asm); (case k2 => k_asm); (case k3 => k_asm); (case kP => k_extra "nt_put"); (case k4 => k_extra "nt_small"); k_whole); intro h' F' N' S'; (try k_sweep))
  k_with "call builtin:list.pop" => (k_here; (with_reducible show wpAny _ _ (call (Value.builtin _) [Value.ref _, Value.int 0 _]) _ _ _); k_dflt (refine' sx_pop0 ?k1 ?k2 ?k3 ?kP ?k4 ?_; (case k1 => k_asm); (case k2 => k_asm); (case k3 => k_asm); (case kP => k_extra "nt_put"); (case k4 => k_extra "nt_small"); k_whole); intro h' F' N' S'; (try k_sweep))
  k_with "call builtin:len" => (k_here; (with_reducible show wpAny _ _ (call (Value.builtin "len") [Value.ref _]) _ _ _); k_dflt (refine' sx_len ?N ?m ?k ?b ?_; (case N => k_asm); (case m => k_extra "nt_mem"); (case k => first | (simp only [List.length_cons, List.length_nil, Nat.reduceAdd]; exact rfl) | exact rfl); (case b => k_extra "nt_small"); k_whole))
  k_with "eval Constant bytes" => (k_dflt (refine sx_bytes ?_))
  k_with "spliced" => (k_here; first | ((with_reducible show wpAny _ _ (spliced (backTo _ (starEach [PySem.Expr.Constant (PySem.Const.int _) _ _] _))) _ _ _); (k_dflt (refine sx_argI1 ?_)); (try dsimp only [List.cons_append, List.nil_append])) | ((with_reducible show wpAny _ _ (spliced (backTo _ (starEach (PySem.Expr.Constant (PySem.Const.int _) _ _ :: _) _))) _ _ _); k_dflt (refine sx_argI ?_)))
  k_with "eval Subscript Name" => (k_here; (fail_if_success k_inBlock); (with_reducible show wpAny _ _ (eval (PySem.Expr.Subscript (PySem.Expr.Name _ _) (PySem.Expr.Constant (PySem.Const.int _) _ _) _) _) _ _ _); k_dflt (refine' sx_subI ?agF ?agv ?agl ?_; (case agF => k_asm); (case agl => exact Eq.refl true); (case agv => exact rfl); k_whole))
  k_with "eval BinOp Name" => (k_here; (fail_if_success k_inBlock); (with_reducible show wpAny _ _ (eval (PySem.Expr.BinOp (PySem.Expr.Name _ _) _ (PySem.Expr.Constant (PySem.Const.int _) _ _) _) _) _ _ _); k_dflt (refine' sx_binI ?agF ?agv ?agl ?_; (case agF => k_asm); (case agl => exact Eq.refl true); (case agv => exact rfl); k_whole))
  k_with "isTrue Compare Name" => (k_here; (fail_if_success k_inBlock); (with_reducible show wpAny _ _ (isTrue (PySem.Expr.Compare (PySem.Expr.Name _ _) [_] [(PySem.Expr.Constant (PySem.Const.int _) _ _)] _) _ _) _ _ _); k_dflt (refine' sx_istI ?agF ?agv ?agl ?_ ?agm; (case agF => k_asm); (case agl => exact Eq.refl true); (case agv => exact rfl); (case agm => with_unfolding_all rfl); k_whole))
  rfl

open PySem PySem.W PySem.Calls PyProof.Rows
set_option Elab.async false
namespace NtMine
set_option maxRecDepth 100000
/-- a class whose instances are plain -/
structure OkC (P : Params) (C : Addr) : Prop where
  sa : findIn (hd.heap_39 P) (.ref C) "__setattr__" = some (some (.builtin "object.__setattr__"))
  po : plainOver (hd.heap_39 P) C = true
  di : hasDictIn (hd.heap_39 P) C = true
  t1 : takerIn (hd.heap_39 P) C (Str.ofString "number") = some none
  t2 : takerIn (hd.heap_39 P) C (Str.ofString "mark") = some none
  t3 : takerIn (hd.heap_39 P) C (Str.ofString "size") = some none
noncomputable abbrev tks (l : List Tok) : Nat → Tok := fun i => l.getD i 0
set_option maxHeartbeats 4000000 in
theorem init_says {w : World} {loose : List Str} {mean : ExcName → Option Value} {mg mb : Str → Option Value} {gd : Option (List Code)} {C x dx : Addr} {a b : Value} {rest : Led} (ok : OkC w.params C) (hx : (x, instObj C dx) ∈ rest) :
   CodeK w loose mean mg mb gd 55 [.ref x, a, b] 1 3 ((dx, dictOf [] 0) :: rest) (fun K => ∀ t0 t1 t2 t3, K .none ((dx, dictOf [ent w.params "number" t0 a, ent w.params "mark" t1 (.int 0 t2), ent w.params "size" t3 b] 3) :: rest)) := by
  refine' code_of_body (binds := [(Str.ofString "self", .ref x), (Str.ofString "number", a), (Str.ofString "size", b)]) (fun _ _ h H t0 t1 t2 t3 => h _ _ (H t0 t1 t2 t3)) ?ho ?hcd ?hbind ?hloc ?hb ?c1 ?c2 ?c3 ?c4 ?_
  k_extra "nt_body"
  intro dp un outer A₀ base h₀ L s Q E B F X N S T hd hu hE hret
  have o1 := ok.sa
  have o2 := ok.po
  have o3 := ok.di
  have o4 := ok.t1
  have o5 := ok.t2
  have o6 := ok.t3
  k_extra "nt_go"
  exact hret _ _ _ _ _ _ _ _ rfl (by k_asm) (by k_asm) (by k_asm)
theorem ok456 {P : Params} : OkC P 456 := by constructor <;> k_is
theorem ok504 {P : Params} : OkC P 504 := by constructor <;> k_is
theorem ok523 {P : Params} : OkC P 523 := by constructor <;> k_is
theorem ok794 {P : Params} : OkC P 794 := by constructor <;> k_is
theorem ok842 {P : Params} : OkC P 842 := by constructor <;> k_is
theorem ok677 {P : Params} : OkC P 677 := by constructor <;> k_is
theorem ok408 {P : Params} : OkC P 408 := by constructor <;> k_is
noncomputable abbrev luaD (P : Params) (kt : Nat → Tok) (z : Int) (p : Value) (u : Value) (e : Value) : Obj :=
  dictOf [ent P "number" (kt 0) (.int 0 (kt 1)), ent P "mark" (kt 2) (.int 0 (kt 3)), ent P "size" (kt 4) (.int z (kt 5)), ent P "proto" (kt 6) p, ent P "upvals" (kt 7) u, ent P "env" (kt 8) e] 6
set_option maxHeartbeats 4000000 in
theorem mk_lua {w : World} {loose : List Str} {mean : ExcName → Option Value} {mg mb : Str → Option Value} {gd : Option (List Code)} {p e : Value} {u : Addr} {us : List Value} {n : Nat} {news : Led} (hup : (u, listOf us.toArray n) ∈ news) (hl : us.length ≤ 100) :
   MakeK w loose mean mg mb gd 456 [p, .ref u, e] 4 11 news (fun K => ∀ x dx, ∀ kt, K (.ref x) ((dx, luaD w.params kt (6 + (us.length : Int)) p (.ref u) e) :: (x, instObj 456 dx) :: news)) := by
  refine' cls_of_body (Rx := fun x dx K => ∀ kt, K ((dx, luaD w.params kt (6 + (us.length : Int)) p (.ref u) e) :: (x, instObj 456 dx) :: news)) (binds := fun x => [(Str.ofString "self", .ref x), (Str.ofString "proto", p), (Str.ofString "upvals", .ref u), (Str.ofString "env", e)]) ?hm ?hi ?hf (fun _ _ _ _ h H kt => h _ (H kt)) ?ho ?hcd ?hbind ?hloc ?hb ?c1 ?c2 ?c3 ?c4 ?_
  k_extra "nt_make"
  intro x dx dp un outer A₀ base h₀ L s Q E B F X N S T hd hu hE hret
  k_with "call ref" => ((open YesNtMake in skip); k_here; (with_reducible show wpAny _ _ (call (Value.ref 55) _) _ _ _); k_extra "nt_init"; intro t0 t1 t2 t3 h' tk' F' N' S'; (try k_sweep))
  k_extra "nt_go"

  exact hret (tks [_, _, _, _, _, _, _, _, _]) _ _ _ _ rfl (by k_asm) (by k_asm) (by k_asm)
noncomputable abbrev pyD (P : Params) (kt : Nat → Tok) (z : Int) (f : Value) (b : Value) (u : Value) (e : Value) : Obj :=
  dictOf [ent P "number" (kt 0) (.int 0 (kt 1)), ent P "mark" (kt 2) (.int 0 (kt 3)), ent P "size" (kt 4) (.int z (kt 5)), ent P "function" (kt 6) f, ent P "name" (kt 7) b, ent P "upvals" (kt 8) u, ent P "env" (kt 9) e] 7
set_option maxHeartbeats 4000000 in
theorem mk_py {w : World} {loose : List Str} {mean : ExcName → Option Value} {mg mb : Str → Option Value} {gd : Option (List Code)} {f b e : Value} {u : Addr} {us : List Value} {n : Nat} {news : Led} (hup : (u, listOf us.toArray n) ∈ news) (hl : us.length ≤ 100) :
   MakeK w loose mean mg mb gd 504 [f, b, .ref u, e] 4 11 news (fun K => ∀ x dx, ∀ kt, K (.ref x) ((dx, pyD w.params kt (6 + (us.length : Int)) f b (.ref u) e) :: (x, instObj 504 dx) :: news)) := by
  refine' cls_of_body (Rx := fun x dx K => ∀ kt, K ((dx, pyD w.params kt (6 + (us.length : Int)) f b (.ref u) e) :: (x, instObj 504 dx) :: news)) (binds := fun x => [(Str.ofString "self", .ref x), (Str.ofString "function", f), (Str.ofString "name", b), (Str.ofString "upvals", .ref u), (Str.ofString "env", e)]) ?hm ?hi ?hf (fun _ _ _ _ h H kt => h _ (H kt)) ?ho ?hcd ?hbind ?hloc ?hb ?c1 ?c2 ?c3 ?c4 ?_
  k_extra "nt_make"
  intro x dx dp un outer A₀ base h₀ L s Q E B F X N S T hd hu hE hret
  k_with "call ref" => ((open YesNtMake in skip); k_here; (with_reducible show wpAny _ _ (call (Value.ref 55) _) _ _ _); k_extra "nt_init"; intro t0 t1 t2 t3 h' tk' F' N' S'; (try k_sweep))
  k_extra "nt_go"

  exact hret (tks [_, _, _, _, _, _, _, _, _, _]) _ _ _ _ rfl (by k_asm) (by k_asm) (by k_asm)
noncomputable abbrev datD (P : Params) (kt : Nat → Tok) (v : Value) (m : Value) (e : Value) : Obj :=
  dictOf [ent P "number" (kt 0) (.int 0 (kt 1)), ent P "mark" (kt 2) (.int 0 (kt 3)), ent P "size" (kt 4) (.int 5 (kt 5)), ent P "value" (kt 6) v, ent P "meta" (kt 7) m, ent P "env" (kt 8) e, ent P "is_finalized" (kt 9) (.bool false)] 7
set_option maxHeartbeats 4000000 in
theorem mk_dat {w : World} {loose : List Str} {mean : ExcName → Option Value} {mg mb : Str → Option Value} {gd : Option (List Code)} {v m e : Value} {news : Led}  :
   MakeK w loose mean mg mb gd 523 [v, m, e] 4 11 news (fun K => ∀ x dx, ∀ kt, K (.ref x) ((dx, datD w.params kt v m e) :: (x, instObj 523 dx) :: news)) := by
  refine' cls_of_body (Rx := fun x dx K => ∀ kt, K ((dx, datD w.params kt v m e) :: (x, instObj 523 dx) :: news)) (binds := fun x => [(Str.ofString "self", .ref x), (Str.ofString "value", v), (Str.ofString "meta", m), (Str.ofString "env", e)]) ?hm ?hi ?hf (fun _ _ _ _ h H kt => h _ (H kt)) ?ho ?hcd ?hbind ?hloc ?hb ?c1 ?c2 ?c3 ?c4 ?_
  k_extra "nt_make"
  intro x dx dp un outer A₀ base h₀ L s Q E B F X N S T hd hu hE hret
  k_with "call ref" => ((open YesNtMake in skip); k_here; (with_reducible show wpAny _ _ (call (Value.ref 55) _) _ _ _); k_extra "nt_init"; intro t0 t1 t2 t3 h' tk' F' N' S'; (try k_sweep))
  k_extra "nt_go"

  exact hret (tks [_, _, _, _, _, _, _, _, _, _]) _ _ _ _ rfl (by k_asm) (by k_asm) (by k_asm)
noncomputable abbrev cinD (P : Params) (kt : Nat → Tok) (a : Value) (b : Value) (c : Value) (d : Value) (p : Value) (q : Value) (r : Value) : Obj :=
  dictOf [ent P "func" (kt 0) a, ent P "base" (kt 1) b, ent P "top" (kt 2) c, ent P "wanted" (kt 3) d, ent P "pc" (kt 4) p, ent P "tails" (kt 5) q, ent P "is_fresh" (kt 6) r] 7
set_option maxHeartbeats 4000000 in
theorem mk_cin {w : World} {loose : List Str} {mean : ExcName → Option Value} {mg mb : Str → Option Value} {gd : Option (List Code)} {a b c d : Value} {news : Led}  :
   MakeK w loose mean mg mb gd 556 [a, b, c, d] 2 4 news (fun K => ∀ x dx, ∀ kt, K (.ref x) ((x, instObj 556 dx) :: (dx, cinD w.params kt a b c d (.int 0 (kt 7)) (.int 0 (kt 8)) (.bool false)) :: news)) := by
  refine' cls_of_body (Rx := fun x dx K => ∀ kt, K ((x, instObj 556 dx) :: (dx, cinD w.params kt a b c d (.int 0 (kt 7)) (.int 0 (kt 8)) (.bool false)) :: news)) (binds := fun x => [(Str.ofString "self", .ref x), (Str.ofString "func", a), (Str.ofString "base", b), (Str.ofString "top", c), (Str.ofString "wanted", d)]) ?hm ?hi ?hf (fun _ _ _ _ h H kt => h _ (H kt)) ?ho ?hcd ?hbind ?hloc ?hb ?c1 ?c2 ?c3 ?c4 ?_
  k_extra "nt_make"
  intro x dx dp un outer A₀ base h₀ L s Q E B F X N S T hd hu hE hret
  k_extra "nt_go"

  exact hret (tks [_, _, _, _, _, _, _, _, _]) _ _ _ _ rfl (by k_asm) (by k_asm) (by k_asm)
noncomputable abbrev proD (P : Params) (kt : Nat → Tok) (bt : Nat → Addr)  : Obj :=
  dictOf [ent P "number" (kt 0) (.int 0 (kt 1)), ent P "mark" (kt 2) (.int 0 (kt 3)), ent P "size" (kt 4) (.int 0 (kt 5)), ent P "code" (kt 6) (.ref (bt 0)), ent P "constants" (kt 7) (.ref (bt 1)), ent P "protos" (kt 8) (.ref (bt 2)), ent P "line_info" (kt 9) (.ref (bt 3)), ent P "locals" (kt 10) (.ref (bt 4)), ent P "upvalue_names" (kt 11) (.ref (bt 5)), ent P "source" (kt 12) (.bytes #[] (kt 13)), ent P "line_defined" (kt 14) (.int 0 (kt 15)), ent P "last_line" (kt 16) (.int 0 (kt 17)), ent P "upvalue_count" (kt 18) (.int 0 (kt 19)), ent P "param_count" (kt 20) (.int 0 (kt 21)), ent P "is_vararg" (kt 22) (.int 0 (kt 23)), ent P "max_stack" (kt 24) (.int 2 (kt 25))] 16
set_option maxHeartbeats 4000000 in
theorem mk_pro {w : World} {loose : List Str} {mean : ExcName → Option Value} {mg mb : Str → Option Value} {gd : Option (List Code)}  {news : Led}  :
   MakeK w loose mean mg mb gd 794 [] 4 11 news (fun K => ∀ x dx, ∀ kt bt, K (.ref x) ((dx, proD w.params kt bt) :: (x, instObj 794 dx) :: news)) := by
  refine' cls_of_body (Rx := fun x dx K => ∀ kt bt, K ((dx, proD w.params kt bt) :: (x, instObj 794 dx) :: news)) (binds := fun x => [(Str.ofString "self", .ref x)]) ?hm ?hi ?hf (fun _ _ _ _ h H kt bt => h _ (H kt bt)) ?ho ?hcd ?hbind ?hloc ?hb ?c1 ?c2 ?c3 ?c4 ?_
  k_extra "nt_make"
  intro x dx dp un outer A₀ base h₀ L s Q E B F X N S T hd hu hE hret
  k_with "call ref" => ((open YesNtMake in skip); k_here; (with_reducible show wpAny _ _ (call (Value.ref 55) _) _ _ _); k_extra "nt_init"; intro t0 t1 t2 t3 h' tk' F' N' S'; (try k_sweep))
  k_extra "nt_go"

  exact hret (tks [_, _, _, _, _, _, _, _, _, _, _, _, _, _, _, _, _, _, _, _, _, _, _, _, _, _]) (fun i => [_, _, _, _, _, _].getD i 0) _ _ _ _ rfl (by k_asm) (drop1 (drop1 (drop1 (drop1 (drop1 (drop1 (by k_asm))))))) (sdrop1 (sdrop1 (sdrop1 (sdrop1 (sdrop1 (sdrop1 (by k_asm)))))))
noncomputable abbrev upvD (P : Params) (kt : Nat → Tok) (th : Value) (i : Value) (v : Value) : Obj :=
  dictOf [ent P "number" (kt 0) (.int 0 (kt 1)), ent P "mark" (kt 2) (.int 0 (kt 3)), ent P "size" (kt 4) (.int 4 (kt 5)), ent P "thread" (kt 6) th, ent P "index" (kt 7) i, ent P "value" (kt 8) v] 6
set_option maxHeartbeats 4000000 in
theorem mk_upv {w : World} {loose : List Str} {mean : ExcName → Option Value} {mg mb : Str → Option Value} {gd : Option (List Code)} {th i : Value} {news : Led}  :
   MakeK w loose mean mg mb gd 842 [th, i] 4 11 news (fun K => ∀ x dx, ∀ kt, K (.ref x) ((dx, upvD w.params kt th i .none) :: (x, instObj 842 dx) :: news)) := by
  refine' cls_of_body (Rx := fun x dx K => ∀ kt, K ((dx, upvD w.params kt th i .none) :: (x, instObj 842 dx) :: news)) (binds := fun x => [(Str.ofString "self", .ref x), (Str.ofString "thread", th), (Str.ofString "index", i)]) ?hm ?hi ?hf (fun _ _ _ _ h H kt => h _ (H kt)) ?ho ?hcd ?hbind ?hloc ?hb ?c1 ?c2 ?c3 ?c4 ?_
  k_extra "nt_make"
  intro x dx dp un outer A₀ base h₀ L s Q E B F X N S T hd hu hE hret
  k_with "call ref" => ((open YesNtMake in skip); k_here; (with_reducible show wpAny _ _ (call (Value.ref 55) _) _ _ _); k_extra "nt_init"; intro t0 t1 t2 t3 h' tk' F' N' S'; (try k_sweep))
  k_extra "nt_go"

  exact hret (tks [_, _, _, _, _, _, _, _, _]) _ _ _ _ rfl (by k_asm) (by k_asm) (by k_asm)
noncomputable abbrev gloD (P : Params) (kt : Nat → Tok) (bt : Nat → Addr) (k : Int) : Obj :=
  dictOf [ent P "limits" (kt 0) .none, ent P "vm" (kt 1) .none, ent P "heap" (kt 2) .none, ent P "registry" (kt 3) .none, ent P "main" (kt 4) .none, ent P "metas" (kt 5) (.ref (bt 0)), ent P "panic" (kt 6) .none, ent P "out" (kt 7) (.ref (bt 1)), ent P "steps" (kt 8) (.int 0 (kt 9)), ent P "last_number" (kt 10) (.int k (kt 11))] 10
set_option maxHeartbeats 4000000 in
theorem mk_glo {w : World} {loose : List Str} {mean : ExcName → Option Value} {mg mb : Str → Option Value} {gd : Option (List Code)}  {news : Led}  :
   MakeK w loose mean mg mb gd 703 [.none] 2 4 news (fun K => ∀ x dx, ∀ kt bt, K (.ref x) ((x, instObj 703 dx) :: (dx, gloD w.params kt bt 0) :: news)) := by
  refine' cls_of_body (Rx := fun x dx K => ∀ kt bt, K ((x, instObj 703 dx) :: (dx, gloD w.params kt bt 0) :: news)) (binds := fun x => [(Str.ofString "self", .ref x), (Str.ofString "limits", .none)]) ?hm ?hi ?hf (fun _ _ _ _ h H kt bt => h _ (H kt bt)) ?ho ?hcd ?hbind ?hloc ?hb ?c1 ?c2 ?c3 ?c4 ?_
  k_extra "nt_make"
  intro x dx dp un outer A₀ base h₀ L s Q E B F X N S T hd hu hE hret
  k_extra "nt_go"

  exact hret (tks [_, _, _, _, _, _, _, _, _, _, _, _]) (fun i => [_, _].getD i 0) _ _ _ _ rfl (by k_asm) (drop1 (drop1 (by k_asm))) (sdrop1 (sdrop1 (by k_asm)))
noncomputable abbrev ligD (P : Params) (kt : Nat → Tok) (v : Value) : Obj :=
  dictOf [ent P "number" (kt 0) v] 1
set_option maxHeartbeats 4000000 in
theorem mk_lig {w : World} {loose : List Str} {mean : ExcName → Option Value} {mg mb : Str → Option Value} {gd : Option (List Code)} {v : Value} {news : Led}  :
   MakeK w loose mean mg mb gd 79 [v] 2 4 news (fun K => ∀ x dx, ∀ kt, K (.ref x) ((x, instObj 79 dx) :: (dx, ligD w.params kt v) :: news)) := by
  refine' cls_of_body (Rx := fun x dx K => ∀ kt, K ((x, instObj 79 dx) :: (dx, ligD w.params kt v) :: news)) (binds := fun x => [(Str.ofString "self", .ref x), (Str.ofString "number", v)]) ?hm ?hi ?hf (fun _ _ _ _ h H kt => h _ (H kt)) ?ho ?hcd ?hbind ?hloc ?hb ?c1 ?c2 ?c3 ?c4 ?_
  k_extra "nt_make"
  intro x dx dp un outer A₀ base h₀ L s Q E B F X N S T hd hu hE hret
  k_extra "nt_go"

  exact hret (tks [_]) _ _ _ _ rfl (by k_asm) (by k_asm) (by k_asm)
noncomputable abbrev thrE (P : Params) (kt : Nat → Tok) (num : Value) (stk : Addr) (top : Value) (frs up : Addr) (gl : Value) : Obj :=
  dictOf [ent P "number" (kt 0) num, ent P "mark" (kt 2) (.int 0 (kt 3)), ent P "size" (kt 4) (.int 20 (kt 5)), ent P "glob" (kt 6) .none, ent P "state" (kt 7) .none, ent P "stack" (kt 8) (.ref stk),
    ent P "top" (kt 9) top, ent P "frames" (kt 10) (.ref frs), ent P "open_upvals" (kt 11) (.ref up), ent P "status" (kt 12) (.int 0 (kt 13)), ent P "globals" (kt 14) gl, ent P "ccalls" (kt 15) (.int 0 (kt 16)),
    ent P "base_ccalls" (kt 17) (.int 0 (kt 18)), ent P "handling" (kt 19) (.int 0 (kt 20)), ent P "resumer" (kt 21) .none, ent P "yielded" (kt 22) (.int 0 (kt 23)), ent P "error" (kt 24) .none] 17
set_option maxHeartbeats 4000000 in
theorem mk_thr {w : World} {loose : List Str} {mean : ExcName → Option Value} {mg mb : Str → Option Value} {gd : Option (List Code)} {news : Led} :
   MakeK w loose mean mg mb gd 677 [.none] 4 11 news (fun K => ∀ x dx, ∀ kt stk frs up c c1 c2, K (.ref x) ((dx, thrE w.params kt (.int 0 (kt 1)) stk (.int 0 (kt 25)) frs up .none) :: (x, instObj 677 dx) :: (stk, listOf (List.replicate 20 Value.none).toArray c) :: (frs, listOf #[] c1) :: (up, listOf #[] c2) :: news)) := by
  refine' cls_of_body (Rx := fun x dx K => ∀ kt stk frs up c c1 c2, K ((dx, thrE w.params kt (.int 0 (kt 1)) stk (.int 0 (kt 25)) frs up .none) :: (x, instObj 677 dx) :: (stk, listOf (List.replicate 20 Value.none).toArray c) :: (frs, listOf #[] c1) :: (up, listOf #[] c2) :: news)) (binds := fun x => [(Str.ofString "self", .ref x), (Str.ofString "glob", .none)]) ?hm ?hi ?hf (fun _ _ _ _ h H kt stk frs up c c1 c2 => h _ (H kt stk frs up c c1 c2)) ?ho ?hcd ?hbind ?hloc ?hb ?c1 ?c2 ?c3 ?c4 ?_
  k_extra "nt_make"
  intro x dx dp un outer A₀ base h₀ L s Q E B F X N S T hd hu hE hret
  k_with "call ref" => ((open YesNtMake in skip); k_here; (with_reducible show wpAny _ _ (call (Value.ref 55) _) _ _ _); k_extra "nt_init"; intro t0 t1 t2 t3 h' tk' F' N' S'; (try k_sweep))
  k_extra "nt_go"
  exact hret (tks [_, _, _, _, _, _, _, _, _, _, _, _, _, _, _, _, _, _, _, _, _, _, _, _, _, _]) _ _ _ _ _ _ _ _ _ _ rfl (by k_asm) (arr_news (by k_asm) (by k_extra "nt_arr")) (arr_sep (by k_asm) (by k_extra "nt_arr"))
noncomputable abbrev tabD (P : Params) (kt : Nat → Tok) (bt : Nat → Addr) (num : Value) : Obj :=
  dictOf [ent P "number" (kt 0) num, ent P "mark" (kt 1) (.int 0 (kt 2)), ent P "size" (kt 3) (.int 56 (kt 4)), ent P "meta" (kt 5) .none, ent P "flags" (kt 6) (.int 0 (kt 7)), ent P "weak" (kt 8) (.bytes #[] (kt 9)), ent P "array" (kt 10) (.ref (bt 0)), ent P "nodes" (kt 11) (.ref (bt 1)), ent P "log_nodes" (kt 12) (.int 0 (kt 13)), ent P "free" (kt 14) (.int 0 (kt 15))] 10
set_option maxHeartbeats 4000000 in
theorem mk_tab {w : World} {loose : List Str} {mean : ExcName → Option Value} {mg mb : Str → Option Value} {gd : Option (List Code)}  {news : Led}  :
   MakeK w loose mean mg mb gd 408 [] 4 11 news (fun K => ∀ x dx, ∀ kt bt, K (.ref x) ((dx, tabD w.params kt bt (.int 0 (kt 16))) :: (x, instObj 408 dx) :: news)) := by
  refine' cls_of_body (Rx := fun x dx K => ∀ kt bt, K ((dx, tabD w.params kt bt (.int 0 (kt 16))) :: (x, instObj 408 dx) :: news)) (binds := fun x => [(Str.ofString "self", .ref x), (Str.ofString "number", .int 0 492), (Str.ofString "array_size", .int 0 493), (Str.ofString "hash_size", .int 0 494)]) ?hm ?hi ?hf (fun _ _ _ _ h H kt bt => h _ (H kt bt)) ?ho ?hcd ?hbind ?hloc ?hb ?c1 ?c2 ?c3 ?c4 ?_
  k_extra "nt_make"
  intro x dx dp un outer A₀ base h₀ L s Q E B F X N S T hd hu hE hret
  k_with "call ref" => ((open YesNtMake in skip); k_here; (with_reducible show wpAny _ _ (call (Value.ref 55) _) _ _ _); k_extra "nt_init"; intro t0 t1 t2 t3 h' tk' F' N' S'; (try k_sweep))
  k_extra "nt_go"

  exact hret (tks [_, _, _, _, _, _, _, _, _, _, _, _, _, _, _, _, _]) (fun i => [_, _].getD i 0) _ _ _ _ rfl (by k_asm) (drop1 (drop1 (by k_asm))) (sdrop1 (sdrop1 (by k_asm)))
noncomputable abbrev grdD (P : Params) (kt : Nat → Tok) (a b : Value) : Obj := dictOf [ent P "stack" (kt 0) a, ent P "open_upvals" (kt 1) b] 2
set_option maxHeartbeats 4000000 in
theorem mk_grd {w : World} {loose : List Str} {mean : ExcName → Option Value} {mg mb : Str → Option Value} {gd : Option (List Code)} {u : Addr} {us : List Value} {n : Nat} {news : Led} (hup : (u, listOf us.toArray n) ∈ news) (hl : us.length ≤ 100) :
   MakeK w loose mean mg mb gd 861 [.ref u] 2 4 news (fun K => ∀ x dx, ∀ gs go kt c1 c2, K (.ref x) ((go, listOf #[] c2) :: (gs, listOf us.toArray c1) :: (x, instObj 861 dx) :: (dx, grdD w.params kt (.ref gs) (.ref go)) :: news)) := by
  refine' cls_of_body (Rx := fun x dx K => ∀ gs go kt c1 c2, K ((go, listOf #[] c2) :: (gs, listOf us.toArray c1) :: (x, instObj 861 dx) :: (dx, grdD w.params kt (.ref gs) (.ref go)) :: news)) (binds := fun x => [(Str.ofString "self", .ref x), (Str.ofString "values", .ref u)]) ?hm ?hi ?hf (fun _ _ _ _ h H gs go kt c1 c2 => h _ (H gs go kt c1 c2)) ?ho ?hcd ?hbind ?hloc ?hb ?c1 ?c2 ?c3 ?c4 ?_
  k_extra "nt_make"
  intro x dx dp un outer A₀ base h₀ L s Q E B F X N S T hd hu hE hret
  k_extra "nt_go"
  exact hret _ _ (tks [_, _]) _ _ _ _ _ _ rfl (by k_asm) (by k_asm) (by k_asm)
end NtMine

end
-- NtUp
section
theorem NtMine.InNtUp.YesNtUp.here : True := True.intro
open NtMine.InNtUp
open PySem PySem.W PySem.Calls PyProof.Rows NtMine in
set_option maxRecDepth 100000 in
theorem NtMine.lines_25 (P : Params) : (PySem.Challenge.rw_nt0650_01, hd.heap_39 P).1 = PySem.Challenge.rw_nt0650_01 := by
  k_fill
  k_with "nt_item" => (k_here; (with_reducible show wpAny _ _ (subscriptTail _ _ (Value.ref _) (Value.int _ _)) _ _ _); k_dflt (refine' nt_itemK ?k1 ?k2 ?k3 ?k4 ?k5 ?_ ?k7 ?k8; (case k1 => k_asm); (case k2 => k_extra "nt_mem"); (case k5 => first | with_reducible assumption | exact rfl); (case k3 => k_extra "nt_i0"); (case k4 => k_extra "nt_i0"); (case k7 => with_unfolding_all rfl); (case k8 => (intro _; with_unfolding_all rfl)); k_whole))
  k_with "nt_i0" => (first | with_reducible assumption | decide | omega)
  k_with "subscriptTail Name Name ref int" => (k_extra "nt_item")
  k_with "subscriptTail Name Constant ref int" => (k_extra "nt_item")
  k_with "subscriptTail Name Attribute ref int" => (k_extra "nt_item")
  k_with "nt_kget" => (first | with_reducible assumption | k_get)
  k_with "getMethod ref" => (k_here; k_dflt (refine' sx_method ?k1 ?k2 ?k3 ?m1 ?m2 ?k4 ?k5 ?k6 ?k7 ?_; (case k1 => k_asm); (case k2 => k_asm); (case k3 => k_asm); (case m1 => k_extra "nt_mem"); (case m2 => k_extra "nt_mem"); (case k4 => k_is); (case k5 => k_is); (case k6 => k_is); (case k7 => k_extra "nt_kget"); k_whole))
  k_with "setItem ref int" => (k_here; (with_reducible show wpAny _ _ (setItem (Value.ref _) (Value.int _ _) _) _ _ _); k_dflt (refine' sx_setI ?k1 ?k2 ?k3 ?kP ?ke ?k4 ?k5 ?k6 ?_; (case k1 => k_asm); (case k2 => k_asm); (case k3 => k_asm); (case kP => k_extra "nt_put"); (case ke => first | with_reducible assumption | exact rfl); (case k4 => k_extra "nt_small"); (case k5 => k_extra "nt_i0"); (case k6 => k_extra "nt_i0"); k_whole); intro h' F' N' S'; (try k_sweep))
  k_with "call builtin:list.insert" => (k_here; (with_reducible show wpAny _ _ (call (Value.builtin _) [Value.ref _, Value.int 0 _, _]) _ _ _); k_dflt (refine' sx_ins0 ?k1 ?k2 ?k3 ?kP ?k4 ?_; (case k1 => k_asm); (case k2 => k_asm); (case k3 => k_asm); (case kP => k_extra "nt_put"); (case k4 => k_extra "nt_small"); k_whole); intro h' F' N' S'; (try k_sweep))
  k_with "call builtin:list.insert" => (k_here; (with_reducible show wpAny _ _ (call (Value.builtin _) [Value.ref _, Value.int 1 _, _]) _ _ _); k_dflt (refine' sx_ins1 ?k1 ?k2 ?k3 ?kP ?k4 ?_; (case k1 => k_asm); (case k2 => k_asm); (case k3 => k_asm); (case kP => k_extra "nt_put"); (case k4 => k_extra "nt_small"); k_whole); intro h' F' N' S'; (try k_sweep))
  k_with "nt_unroll" => (k_here; k_dflt (refine whl_start 8 ?_))
  k_with "exec While BoolOp" => (k_extra "nt_unroll")
  k_with "exec While BoolOp cons nil" => (k_extra "nt_unroll")
  k_with "exec While BoolOp cons cons nil" => (k_extra "nt_unroll")
  k_with "WhlRest" => (k_dflt (refine' whl_turn ?hE ?_; (case hE => first | with_reducible assumption | passes_own | with_unfolding_all passes_own)); (try k_sweep))
  k_with "nt_gets" => (first | with_reducible assumption | ((with_reducible show @Eq (Option (Option Value)) _ _); k_get))
  rfl

open PySem PySem.W PySem.Calls PyProof.Rows
set_option Elab.async false
namespace NtMine
set_option maxRecDepth 100000
set_option pp.deepTerms false
set_option pp.maxSteps 3000
noncomputable abbrev gets (f : String) (es : List DictEntry) (v : Value) : Prop := getL (Str.ofString f) es = some (some v)
section
variable {w : World} {loose : List Str} {mean : ExcName → Option Value} {mg mb : Str → Option Value} {gd : Option (List Code)} {u d g dg gs x dx ul : Addr} {es eg : List DictEntry} {n ng ns : Nat} {k : Int} {t tk : Tok} {vs ws : List Value} {y y' : Value} {news news' rest : Led} {kt : Nat → Tok} {i v z : Value}
set_option maxHeartbeats 4000000
theorem up_get (h1 : (u, instObj 842 d) ∈ news) (h2 : (d, dictOf es n) ∈ news) (e1 : gets "thread" es (.ref g)) (e2 : gets "index" es (.int k tk)) (h3 : (g, instObj 861 dg) ∈ news) (h4 : (dg, dictOf eg ng) ∈ news) (e3 : gets "stack" eg (.ref gs))
   (h5 : (gs, listOf vs.toArray ns) ∈ news) (hk : 0 ≤ k) (hk2 : k < 1000) (hv : vs[k.toNat]? = some y) :
   CodeK w loose mean mg mb gd 825 [.ref u] 1 3 news (fun K => K y news) := by
  refine' code_of_body (binds := [(Str.ofString "self", .ref u)]) (fun _ _ h H => h _ _ H) ?ho ?hcd ?hbind ?hloc ?hb ?c1 ?c2 ?c3 ?c4 ?_
  k_extra "nt_body"
  intro dp un outer A₀ base h₀ L s Q E B F X N S T hd hu hE hret
  k_extra "nt_go"
  exact hret _ _ _ _ rfl (by k_asm) (by k_asm) (by k_asm)
theorem up_getC (h1 : (u, instObj 842 d) ∈ news) (h2 : (d, dictOf es n) ∈ news) (e1 : gets "thread" es .none) (e2 : gets "value" es y) (hy : handedIn y = true) :
   CodeK w loose mean mg mb gd 825 [.ref u] 1 3 news (fun K => K y news) := by
  refine' code_of_body (binds := [(Str.ofString "self", .ref u)]) (fun _ _ h H => h _ _ H) ?ho ?hcd ?hbind ?hloc ?hb ?c1 ?c2 ?c3 ?c4 ?_
  k_extra "nt_body"
  intro dp un outer A₀ base h₀ L s Q E B F X N S T hd hu hE hret
  k_extra "nt_go"
  exact hret _ _ _ _ rfl (by k_asm) (by k_asm) (by k_asm)
theorem up_set (h1 : (u, instObj 842 d) ∈ news) (h2 : (d, dictOf es n) ∈ news) (e1 : gets "thread" es (.ref g)) (e2 : gets "index" es (.int k tk)) (h3 : (g, instObj 861 dg) ∈ news) (h4 : (dg, dictOf eg ng) ∈ news) (e3 : gets "stack" eg (.ref gs))
   (hw : vs.set k.toNat y = ws) (P : Put gs (listOf vs.toArray ns) (listOf ws.toArray ns) news news') (hk : 0 ≤ k) (hk2 : k < vs.length) (hl : vs.length ≤ 1000) :
   CodeK w loose mean mg mb gd 832 [.ref u, y] 1 3 news (fun K => K .none news') := by
  refine' code_of_body (binds := [(Str.ofString "self", .ref u), (Str.ofString "value", y)]) (fun _ _ h H => h _ _ H) ?ho ?hcd ?hbind ?hloc ?hb ?c1 ?c2 ?c3 ?c4 ?_
  k_extra "nt_body"
  intro dp un outer A₀ base h₀ L s Q E B F X N S T hd hu hE hret
  have h5 := P.mem
  k_extra "nt_go"
  exact hret _ _ _ _ rfl (by k_asm) (by k_asm) (by k_asm)
theorem up_setC (h1 : (u, instObj 842 d) ∈ news) (P : Put d (upvD w.params kt .none i v) (upvD w.params kt .none i y) news news') :
   CodeK w loose mean mg mb gd 832 [.ref u, y] 1 3 news (fun K => K .none news') := by
  refine' code_of_body (binds := [(Str.ofString "self", .ref u), (Str.ofString "value", y)]) (fun _ _ h H => h _ _ H) ?ho ?hcd ?hbind ?hloc ?hb ?c1 ?c2 ?c3 ?c4 ?_
  k_extra "nt_body"
  intro dp un outer A₀ base h₀ L s Q E B F X N S T hd hu hE hret
  have h5 := P.mem
  k_extra "nt_go"
  exact hret _ _ _ _ rfl (by k_asm) (by k_asm) (by k_asm)
theorem up_close (h1 : (u, instObj 842 d) ∈ rest) (h3 : (g, instObj 861 dg) ∈ rest) (h4 : (dg, dictOf eg ng) ∈ rest) (e3 : gets "stack" eg (.ref gs)) (h5 : (gs, listOf vs.toArray ns) ∈ rest) (hk : 0 ≤ k) (hk2 : k < 1000) (hv : vs[k.toNat]? = some y) :
   CodeK w loose mean mg mb gd 839 [.ref u] 1 3 ((d, upvD w.params kt (.ref g) (.int k tk) v) :: rest) (fun K => ∀ t, K .none ((d, upvD w.params kt .none (.int (-1) t) y) :: rest)) := by
  refine' code_of_body (binds := [(Str.ofString "self", .ref u)]) (fun _ _ h H t => h _ _ (H t)) ?ho ?hcd ?hbind ?hloc ?hb ?c1 ?c2 ?c3 ?c4 ?_
  k_extra "nt_body"
  intro dp un outer A₀ base h₀ L s Q E B F X N S T hd hu hE hret
  k_extra "nt_go"
  exact hret _ _ _ _ _ rfl (by k_asm) (by k_asm) (by k_asm)
/-- a closure's cell by the cell's contract -/
theorem lua_get {kd ku : Nat} {nx : Nat} {ex : List DictEntry} (C : CodeK w loose mean mg mb gd 825 [.ref u] kd ku news (fun K => K y news)) (h1 : (u, instObj 842 d) ∈ news) (h2 : (d, dictOf es n) ∈ news) (e0 : getL (Str.ofString "get") es = some none)
   (h4 : (x, instObj 456 dx) ∈ news) (h5 : (dx, dictOf ex nx) ∈ news) (e1 : gets "upvals" ex (.ref ul)) (h3 : (ul, listOf vs.toArray ns) ∈ news)
   (hk : 0 ≤ k) (hk2 : k < 1000) (hv : vs[k.toNat]? = some (.ref u)) : CodeK w loose mean mg mb gd 439 [.ref x, .int k t] (kd + 1) (ku + 3) news (fun K => K y news) := by
  refine' code_of_body (binds := [(Str.ofString "self", .ref x), (Str.ofString "at", .int k t)]) (fun _ _ h H => h _ _ H) ?ho ?hcd ?hbind ?hloc ?hb ?c1 ?c2 ?c3 ?c4 ?_
  k_extra "nt_body"
  intro dp un outer A₀ base h₀ L s Q E B F X N S T hd hu hE hret
  k_with "call ref" => ((open YesNtUp in skip); k_here; (with_reducible show wpAny _ _ (call (Value.ref 825) _) _ _ _); k_dflt (refine' code_use C ?kB ?kF ?kX ?kN ?kS ?kP ?kT ?kk ?kd ?ku ?_; k_extra "nt_use0"; k_whole); intro h' tk' F' N' S'; (try k_sweep))
  k_extra "nt_go"
  exact hret _ _ _ _ rfl (by k_asm) (by k_asm) (by k_asm)
theorem lua_set {kd ku : Nat} {nx : Nat} {ex : List DictEntry} (C : CodeK w loose mean mg mb gd 832 [.ref u, y] kd ku news (fun K => K .none news')) (h1 : (u, instObj 842 d) ∈ news) (h2 : (d, dictOf es n) ∈ news) (e0 : getL (Str.ofString "set") es = some none)
   (h4 : (x, instObj 456 dx) ∈ news) (h5 : (dx, dictOf ex nx) ∈ news) (e1 : gets "upvals" ex (.ref ul)) (h3 : (ul, listOf vs.toArray ns) ∈ news)
   (hk : 0 ≤ k) (hk2 : k < 1000) (hv : vs[k.toNat]? = some (.ref u)) : CodeK w loose mean mg mb gd 446 [.ref x, .int k t, y] (kd + 1) (ku + 3) news (fun K => K .none news') := by
  refine' code_of_body (binds := [(Str.ofString "self", .ref x), (Str.ofString "at", .int k t), (Str.ofString "value", y)]) (fun _ _ h H => h _ _ H) ?ho ?hcd ?hbind ?hloc ?hb ?c1 ?c2 ?c3 ?c4 ?_
  k_extra "nt_body"
  intro dp un outer A₀ base h₀ L s Q E B F X N S T hd hu hE hret
  k_with "call ref" => ((open YesNtUp in skip); k_here; (with_reducible show wpAny _ _ (call (Value.ref 832) _) _ _ _); k_dflt (refine' code_use C ?kB ?kF ?kX ?kN ?kS ?kP ?kT ?kk ?kd ?ku ?_; k_extra "nt_use0"; k_whole); intro h' tk' F' N' S'; (try k_sweep))
  k_extra "nt_go"
  exact hret _ _ _ _ rfl (by k_asm) (by k_asm) (by k_asm)
theorem lua_count (h4 : (x, instObj 456 dx) ∈ news) (h5 : (dx, dictOf es n) ∈ news) (e1 : gets "upvals" es (.ref ul)) (h3 : (ul, listOf vs.toArray ns) ∈ news) (hl : vs.length ≤ 1000) :
   CodeK w loose mean mg mb gd 431 [.ref x] 1 3 news (fun K => ∀ t, K (.int vs.length t) news) := by
  refine' code_of_body (binds := [(Str.ofString "self", .ref x)]) (fun _ _ h H t => h _ _ (H t)) ?ho ?hcd ?hbind ?hloc ?hb ?c1 ?c2 ?c3 ?c4 ?_
  k_extra "nt_body"
  intro dp un outer A₀ base h₀ L s Q E B F X N S T hd hu hE hret
  k_extra "nt_go"
  exact hret _ _ _ _ _ rfl (by k_asm) (by k_asm) (by k_asm)
theorem py_count (h4 : (x, instObj 504 dx) ∈ news) (h5 : (dx, dictOf es n) ∈ news) (e1 : gets "upvals" es (.ref ul)) (h3 : (ul, listOf vs.toArray ns) ∈ news) (hl : vs.length ≤ 1000) :
   CodeK w loose mean mg mb gd 479 [.ref x] 1 3 news (fun K => ∀ t, K (.int vs.length t) news) := by
  refine' code_of_body (binds := [(Str.ofString "self", .ref x)]) (fun _ _ h H t => h _ _ (H t)) ?ho ?hcd ?hbind ?hloc ?hb ?c1 ?c2 ?c3 ?c4 ?_
  k_extra "nt_body"
  intro dp un outer A₀ base h₀ L s Q E B F X N S T hd hu hE hret
  k_extra "nt_go"
  exact hret _ _ _ _ _ rfl (by k_asm) (by k_asm) (by k_asm)
theorem py_get (h4 : (x, instObj 504 dx) ∈ news) (h5 : (dx, dictOf es n) ∈ news) (e1 : gets "upvals" es (.ref ul)) (h3 : (ul, listOf vs.toArray ns) ∈ news) (hk : 0 ≤ k) (hk2 : k < 1000) (hv : vs[k.toNat]? = some y) :
   CodeK w loose mean mg mb gd 487 [.ref x, .int k t] 1 3 news (fun K => K y news) := by
  refine' code_of_body (binds := [(Str.ofString "self", .ref x), (Str.ofString "at", .int k t)]) (fun _ _ h H => h _ _ H) ?ho ?hcd ?hbind ?hloc ?hb ?c1 ?c2 ?c3 ?c4 ?_
  k_extra "nt_body"
  intro dp un outer A₀ base h₀ L s Q E B F X N S T hd hu hE hret
  k_extra "nt_go"
  exact hret _ _ _ _ rfl (by k_asm) (by k_asm) (by k_asm)
theorem py_set (h4 : (x, instObj 504 dx) ∈ rest) (h5 : (dx, dictOf es n) ∈ rest) (e1 : gets "upvals" es (.ref ul)) (hk : 0 ≤ k) (hk2 : k < vs.length) (hl : vs.length ≤ 1000) (hw : vs.set k.toNat y = ws) :
   CodeK w loose mean mg mb gd 494 [.ref x, .int k t, y] 1 3 ((ul, listOf vs.toArray ns) :: rest) (fun K => K .none ((ul, listOf ws.toArray ns) :: rest)) := by
  refine' code_of_body (binds := [(Str.ofString "self", .ref x), (Str.ofString "at", .int k t), (Str.ofString "value", y)]) (fun _ _ h H => h _ _ H) ?ho ?hcd ?hbind ?hloc ?hb ?c1 ?c2 ?c3 ?c4 ?_
  k_extra "nt_body"
  intro dp un outer A₀ base h₀ L s Q E B F X N S T hd hu hE hret
  k_extra "nt_go"
  exact hret _ _ _ _ rfl (by k_asm) (by k_asm) (by k_asm)
theorem py_name : CodeK w loose mean mg mb gd 501 [.ref x, y] 1 3 news (fun K => ∀ t, K (.bytes #[] t) news) := by
  refine' code_of_body (binds := [(Str.ofString "self", .ref x), (Str.ofString "at", y)]) (fun _ _ h H t => h _ _ (H t)) ?ho ?hcd ?hbind ?hloc ?hb ?c1 ?c2 ?c3 ?c4 ?_
  k_extra "nt_body"
  intro dp un outer A₀ base h₀ L s Q E B F X N S T hd hu hE hret
  k_extra "nt_go"
  exact hret _ _ _ _ _ rfl (by k_asm) (by k_asm) (by k_asm)
/-- a cell's name: one that is told, and none -/
theorem lua_name {p dp' nl : Addr} {ep : List DictEntry} {np nn : Nat} {ns' : List Value} (h4 : (x, instObj 456 dx) ∈ news) (h5 : (dx, dictOf es n) ∈ news) (e1 : gets "proto" es (.ref p)) (h6 : (p, instObj 794 dp') ∈ news) (h7 : (dp', dictOf ep np) ∈ news) (e2 : gets "upvalue_names" ep (.ref nl))
   (h3 : (nl, listOf ns'.toArray nn) ∈ news) (hl : ns'.length ≤ 1000) (hk : 0 ≤ k) (hk2 : k < 1000) :
   CodeK w loose mean mg mb gd 453 [.ref x, .int k t] 1 3 news (fun K => ∀ t, K (if k < ns'.length then ns'.getD k.toNat .none else .bytes #[] t) news) := by
  refine' code_of_body (binds := [(Str.ofString "self", .ref x), (Str.ofString "at", .int k t)]) (fun _ _ h H t => h _ _ (H t)) ?ho ?hcd ?hbind ?hloc ?hb ?c1 ?c2 ?c3 ?c4 ?_
  k_extra "nt_body"
  intro dp un outer A₀ base h₀ L s Q E B F X N S T hd hu hE hret
  k_extra "nt_go"
  · rename (_ < _) => ha
    rename (_ = some _) => hv
    exact hret 0 _ _ _ _ (by rw [if_pos ha, List.getD_eq_getElem?_getD, hv]; rfl) (by k_asm) (by k_asm) (by k_asm)
  · rename (¬ _) => ha
    exact hret _ _ _ _ _ (by rw [if_neg ha]) (by k_asm) (by k_asm) (by k_asm)
/-- a cell handed on -/
theorem join_says {z dz zl : Addr} {ez : List DictEntry} {nz nl' : Nat} {us : List Value} {k2 : Int} {t2 : Tok} (h1 : (x, instObj 456 dx) ∈ news) (h2 : (dx, dictOf es n) ∈ news) (e1 : gets "upvals" es (.ref ul)) (h3 : (z, instObj 456 dz) ∈ news) (h4 : (dz, dictOf ez nz) ∈ news) (e2 : gets "upvals" ez (.ref zl)) (h5 : (zl, listOf us.toArray nl') ∈ news)
   (hk3 : 0 ≤ k2) (hk4 : k2 < 1000) (hv : us[k2.toNat]? = some y) (hw : vs.set k.toNat y = ws) (P : Put ul (listOf vs.toArray ns) (listOf ws.toArray ns) news news') (hk : 0 ≤ k) (hk2 : k < vs.length) (hl : vs.length ≤ 1000) :
   CodeK w loose mean mg mb gd 735 [.ref x, .int k t, .ref z, .int k2 t2] 1 3 news (fun K => K .none news') := by
  refine' code_of_body (binds := [(Str.ofString "one", .ref x), (Str.ofString "at", .int k t), (Str.ofString "other", .ref z), (Str.ofString "spot", .int k2 t2)]) (fun _ _ h H => h _ _ H) ?ho ?hcd ?hbind ?hloc ?hb ?c1 ?c2 ?c3 ?c4 ?_
  k_extra "nt_body"
  intro dp un outer A₀ base h₀ L s Q E B F X N S T hd hu hE hret
  have hm := P.mem
  k_extra "nt_go"
  exact hret _ _ _ _ rfl (by k_asm) (by k_asm) (by k_asm)
end
end NtMine

end
-- NtFind
section
theorem NtMine.InNtFind.YesNtFind.here : True := True.intro
open NtMine.InNtFind
open PySem PySem.W PySem.Calls PyProof.Rows
set_option Elab.async false
namespace NtMine
set_option maxRecDepth 100000
set_option pp.deepTerms false
set_option pp.maxSteps 3000
section
variable {w : World} {loose : List Str} {mean : ExcName → Option Value} {mg mb : Str → Option Value} {gd : Option (List Code)} {g dg go a da b db x dx gs : Addr} {eg ea eb ex : List DictEntry} {ng na nb nx n n2 : Nat} {t tj ti : Tok} {vs ws : List Value} {news rest : Led}
set_option maxHeartbeats 4000000
theorem spot_a (h1 : (g, instObj 861 dg) ∈ news) (h2 : (dg, dictOf eg ng) ∈ news) (e1 : gets "open_upvals" eg (.ref go)) (h3 : (go, listOf (List.toArray ([] : List Value)) n) ∈ news)  :
   CodeK w loose mean mg mb gd 872 [.ref g, .int 0 t] 1 3 news (fun K => ∀ t, K (.int 0 t) news) := by
  refine' code_of_body (binds := [(Str.ofString "owner", .ref g), (Str.ofString "index", .int 0 t)]) (fun _ _ h H t => h _ _ (H t)) ?ho ?hcd ?hbind ?hloc ?hb ?c1 ?c2 ?c3 ?c4 ?_
  k_extra "nt_body"
  intro dp un outer A₀ base h₀ L s Q E B F X N S T hd hu hE hret
  k_extra "nt_go"
  exact hret _ _ _ _ _ rfl (by k_asm) (by k_asm) (by k_asm)
theorem open_a (h1 : (g, instObj 861 dg) ∈ news) (h2 : (dg, dictOf eg ng) ∈ news) (e1 : gets "open_upvals" eg (.ref go)) (h3 : (go, listOf (List.toArray ([] : List Value)) n) ∈ news)  :
   CodeK w loose mean mg mb gd 879 [.ref g, .int 0 t] 3 10 news (fun K => K .none news) := by
  refine' code_of_body (binds := [(Str.ofString "owner", .ref g), (Str.ofString "index", .int 0 t)]) (fun _ _ h H => h _ _ H) ?ho ?hcd ?hbind ?hloc ?hb ?c1 ?c2 ?c3 ?c4 ?_
  k_extra "nt_body"
  intro dp un outer A₀ base h₀ L s Q E B F X N S T hd hu hE hret
  k_with "call ref" => ((open YesNtFind in skip); k_here; (with_reducible show wpAny _ _ (call (Value.ref 872) _) _ _ _); k_dflt (refine' code_use (spot_a ?m0 ?m1 ?m2 ?m3) ?kB ?kF ?kX ?kN ?kS ?kP ?kT ?kk ?kd ?ku ?_; k_extra "nt_use0"; (case m0 => first | with_reducible assumption | k_extra "nt_mem"); (case m1 => first | with_reducible assumption | k_extra "nt_mem"); (case m2 => first | with_reducible assumption | k_extra "nt_mem"); (case m3 => first | with_reducible assumption | k_extra "nt_mem"); k_whole); intro t9 h' tk' F' N' S'; (try k_sweep))
  k_extra "nt_go"
  exact hret _ _ _ _ rfl (by k_asm) (by k_asm) (by k_asm)
theorem put_a (h1 : (g, instObj 861 dg) ∈ rest) (h2 : (dg, dictOf eg ng) ∈ rest) (e1 : gets "open_upvals" eg (.ref go))  (hx : (x, instObj 842 dx) ∈ rest) (hdx : (dx, dictOf ex nx) ∈ rest) (exx : gets "index" ex (.int 0 t)) :
   CodeK w loose mean mg mb gd 886 [.ref g, .ref x] 3 10 ((go, listOf (List.toArray ([] : List Value)) n) :: rest) (fun K => K .none ((go, listOf (List.toArray ([.ref x] : List Value)) (n + 1)) :: rest)) := by
  refine' code_of_body (binds := [(Str.ofString "owner", .ref g), (Str.ofString "upval", .ref x)]) (fun _ _ h H => h _ _ H) ?ho ?hcd ?hbind ?hloc ?hb ?c1 ?c2 ?c3 ?c4 ?_
  k_extra "nt_body"
  intro dp un outer A₀ base h₀ L s Q E B F X N S T hd hu hE hret
  k_with "call ref" => ((open YesNtFind in skip); k_here; (with_reducible show wpAny _ _ (call (Value.ref 872) _) _ _ _); k_dflt (refine' code_use (spot_a (.tail _ h1) (.tail _ h2) e1 (.head _)) ?kB ?kF ?kX ?kN ?kS ?kP ?kT ?kk ?kd ?ku ?_; k_extra "nt_use0"; k_whole); intro t9 h' tk' F' N' S'; (try k_sweep))
  k_extra "nt_go"
  exact hret _ _ _ _ rfl (by k_asm) (by k_asm) (by k_asm)
theorem find_a (h1 : (g, instObj 861 dg) ∈ rest) (h2 : (dg, dictOf eg ng) ∈ rest) (e1 : gets "open_upvals" eg (.ref go))  :
   CodeK w loose mean mg mb gd 893 [.ref g, .int 0 t] 7 30 ((go, listOf (List.toArray ([] : List Value)) n) :: rest) (fun K => ∀ x dx kt, K (.ref x) ((go, listOf (List.toArray ([.ref x] : List Value)) (n + 1)) :: (dx, upvD w.params kt (.ref g) (.int 0 t) .none) :: (x, instObj 842 dx) :: rest)) := by
  refine' code_of_body (binds := [(Str.ofString "owner", .ref g), (Str.ofString "index", .int 0 t)]) (fun _ _ h H x dx kt => h _ _ (H x dx kt)) ?ho ?hcd ?hbind ?hloc ?hb ?c1 ?c2 ?c3 ?c4 ?_
  k_extra "nt_body"
  intro dp un outer A₀ base h₀ L s Q E B F X N S T hd hu hE hret
  k_with "call ref" => ((open YesNtFind in skip); k_here; (with_reducible show wpAny _ _ (call (Value.ref 879) _) _ _ _); k_dflt (refine' code_use (open_a (.tail _ h1) (.tail _ h2) e1 (.head _)) ?kB ?kF ?kX ?kN ?kS ?kP ?kT ?kk ?kd ?ku ?_; k_extra "nt_use0"; k_whole); intro h' tk' F' N' S'; (try k_sweep))
  k_with "call ref" => ((open YesNtFind in skip); k_here; (with_reducible show wpAny _ _ (call (Value.ref 842) _) _ _ _); k_dflt (refine' make_use mk_upv ?kB ?kF ?kX ?kN ?kS ?kP ?kT ?kk ?kd ?ku ?_; k_extra "nt_use0"; k_whole); intro x' dx' kt' h' tk' F' N' S'; (try k_sweep))
  k_with "call ref" => ((open YesNtFind in skip); k_here; (with_reducible show wpAny _ _ (call (Value.ref 886) _) _ _ _); k_dflt (refine' code_use (put_a (rest := (_, upvD _ _ _ _ _) :: (_, instObj 842 _) :: rest) (.tail _ (.tail _ h1)) (.tail _ (.tail _ h2)) e1 (.tail _ (.head _)) (.head _) ?ex) ?kB ?kF ?kX ?kN ?kS ?kP ?kT ?kk ?kd ?ku ?_; k_extra "nt_use0"; (case ex => k_extra "nt_gets"); k_whole); intro h' tk' F' N' S'; (try k_sweep))
  k_extra "nt_go"
  exact hret _ _ _ _ _ _ _ rfl (by k_asm) (by k_asm) (by k_asm)
theorem spot_b (h1 : (g, instObj 861 dg) ∈ news) (h2 : (dg, dictOf eg ng) ∈ news) (e1 : gets "open_upvals" eg (.ref go)) (h3 : (go, listOf (List.toArray ([.ref a] : List Value)) n) ∈ news) (ha : (a, instObj 842 da) ∈ news) (hda : (da, dictOf ea na) ∈ news) (ea : gets "index" ea (.int 0 tj)) :
   CodeK w loose mean mg mb gd 872 [.ref g, .int 2 t] 1 3 news (fun K => ∀ t, K (.int 0 t) news) := by
  refine' code_of_body (binds := [(Str.ofString "owner", .ref g), (Str.ofString "index", .int 2 t)]) (fun _ _ h H t => h _ _ (H t)) ?ho ?hcd ?hbind ?hloc ?hb ?c1 ?c2 ?c3 ?c4 ?_
  k_extra "nt_body"
  intro dp un outer A₀ base h₀ L s Q E B F X N S T hd hu hE hret
  k_extra "nt_go"
  exact hret _ _ _ _ _ rfl (by k_asm) (by k_asm) (by k_asm)
theorem open_b (h1 : (g, instObj 861 dg) ∈ news) (h2 : (dg, dictOf eg ng) ∈ news) (e1 : gets "open_upvals" eg (.ref go)) (h3 : (go, listOf (List.toArray ([.ref a] : List Value)) n) ∈ news) (ha : (a, instObj 842 da) ∈ news) (hda : (da, dictOf ea na) ∈ news) (ea : gets "index" ea (.int 0 tj)) :
   CodeK w loose mean mg mb gd 879 [.ref g, .int 2 t] 3 10 news (fun K => K .none news) := by
  refine' code_of_body (binds := [(Str.ofString "owner", .ref g), (Str.ofString "index", .int 2 t)]) (fun _ _ h H => h _ _ H) ?ho ?hcd ?hbind ?hloc ?hb ?c1 ?c2 ?c3 ?c4 ?_
  k_extra "nt_body"
  intro dp un outer A₀ base h₀ L s Q E B F X N S T hd hu hE hret
  k_with "call ref" => ((open YesNtFind in skip); k_here; (with_reducible show wpAny _ _ (call (Value.ref 872) _) _ _ _); k_dflt (refine' code_use (spot_b ?m0 ?m1 ?m2 ?m3 ?m4 ?m5 ?m6) ?kB ?kF ?kX ?kN ?kS ?kP ?kT ?kk ?kd ?ku ?_; k_extra "nt_use0"; (case m0 => first | with_reducible assumption | k_extra "nt_mem"); (case m1 => first | with_reducible assumption | k_extra "nt_mem"); (case m2 => first | with_reducible assumption | k_extra "nt_mem"); (case m3 => first | with_reducible assumption | k_extra "nt_mem"); (case m4 => first | with_reducible assumption | k_extra "nt_mem"); (case m5 => first | with_reducible assumption | k_extra "nt_mem"); (case m6 => first | with_reducible assumption | k_extra "nt_mem"); k_whole); intro t9 h' tk' F' N' S'; (try k_sweep))
  k_extra "nt_go"
  exact hret _ _ _ _ rfl (by k_asm) (by k_asm) (by k_asm)
theorem put_b (h1 : (g, instObj 861 dg) ∈ rest) (h2 : (dg, dictOf eg ng) ∈ rest) (e1 : gets "open_upvals" eg (.ref go)) (ha : (a, instObj 842 da) ∈ rest) (hda : (da, dictOf ea na) ∈ rest) (ea : gets "index" ea (.int 0 tj)) (hx : (x, instObj 842 dx) ∈ rest) (hdx : (dx, dictOf ex nx) ∈ rest) (exx : gets "index" ex (.int 2 t)) :
   CodeK w loose mean mg mb gd 886 [.ref g, .ref x] 3 10 ((go, listOf (List.toArray ([.ref a] : List Value)) n) :: rest) (fun K => K .none ((go, listOf (List.toArray ([.ref x, .ref a] : List Value)) (n + 1)) :: rest)) := by
  refine' code_of_body (binds := [(Str.ofString "owner", .ref g), (Str.ofString "upval", .ref x)]) (fun _ _ h H => h _ _ H) ?ho ?hcd ?hbind ?hloc ?hb ?c1 ?c2 ?c3 ?c4 ?_
  k_extra "nt_body"
  intro dp un outer A₀ base h₀ L s Q E B F X N S T hd hu hE hret
  k_with "call ref" => ((open YesNtFind in skip); k_here; (with_reducible show wpAny _ _ (call (Value.ref 872) _) _ _ _); k_dflt (refine' code_use (spot_b (.tail _ h1) (.tail _ h2) e1 (.head _) (.tail _ ha) (.tail _ hda) ea) ?kB ?kF ?kX ?kN ?kS ?kP ?kT ?kk ?kd ?ku ?_; k_extra "nt_use0"; k_whole); intro t9 h' tk' F' N' S'; (try k_sweep))
  k_extra "nt_go"
  exact hret _ _ _ _ rfl (by k_asm) (by k_asm) (by k_asm)
theorem find_b (h1 : (g, instObj 861 dg) ∈ rest) (h2 : (dg, dictOf eg ng) ∈ rest) (e1 : gets "open_upvals" eg (.ref go)) (ha : (a, instObj 842 da) ∈ rest) (hda : (da, dictOf ea na) ∈ rest) (ea : gets "index" ea (.int 0 tj)) :
   CodeK w loose mean mg mb gd 893 [.ref g, .int 2 t] 7 30 ((go, listOf (List.toArray ([.ref a] : List Value)) n) :: rest) (fun K => ∀ x dx kt, K (.ref x) ((go, listOf (List.toArray ([.ref x, .ref a] : List Value)) (n + 1)) :: (dx, upvD w.params kt (.ref g) (.int 2 t) .none) :: (x, instObj 842 dx) :: rest)) := by
  refine' code_of_body (binds := [(Str.ofString "owner", .ref g), (Str.ofString "index", .int 2 t)]) (fun _ _ h H x dx kt => h _ _ (H x dx kt)) ?ho ?hcd ?hbind ?hloc ?hb ?c1 ?c2 ?c3 ?c4 ?_
  k_extra "nt_body"
  intro dp un outer A₀ base h₀ L s Q E B F X N S T hd hu hE hret
  k_with "call ref" => ((open YesNtFind in skip); k_here; (with_reducible show wpAny _ _ (call (Value.ref 879) _) _ _ _); k_dflt (refine' code_use (open_b (.tail _ h1) (.tail _ h2) e1 (.head _) (.tail _ ha) (.tail _ hda) ea) ?kB ?kF ?kX ?kN ?kS ?kP ?kT ?kk ?kd ?ku ?_; k_extra "nt_use0"; k_whole); intro h' tk' F' N' S'; (try k_sweep))
  k_with "call ref" => ((open YesNtFind in skip); k_here; (with_reducible show wpAny _ _ (call (Value.ref 842) _) _ _ _); k_dflt (refine' make_use mk_upv ?kB ?kF ?kX ?kN ?kS ?kP ?kT ?kk ?kd ?ku ?_; k_extra "nt_use0"; k_whole); intro x' dx' kt' h' tk' F' N' S'; (try k_sweep))
  k_with "call ref" => ((open YesNtFind in skip); k_here; (with_reducible show wpAny _ _ (call (Value.ref 886) _) _ _ _); k_dflt (refine' code_use (put_b (rest := (_, upvD _ _ _ _ _) :: (_, instObj 842 _) :: rest) (.tail _ (.tail _ h1)) (.tail _ (.tail _ h2)) e1 (.tail _ (.tail _ ha)) (.tail _ (.tail _ hda)) ea (.tail _ (.head _)) (.head _) ?ex) ?kB ?kF ?kX ?kN ?kS ?kP ?kT ?kk ?kd ?ku ?_; k_extra "nt_use0"; (case ex => k_extra "nt_gets"); k_whole); intro h' tk' F' N' S'; (try k_sweep))
  k_extra "nt_go"
  exact hret _ _ _ _ _ _ _ rfl (by k_asm) (by k_asm) (by k_asm)
theorem spot_c (h1 : (g, instObj 861 dg) ∈ news) (h2 : (dg, dictOf eg ng) ∈ news) (e1 : gets "open_upvals" eg (.ref go)) (h3 : (go, listOf (List.toArray ([.ref a, .ref b] : List Value)) n) ∈ news) (ha : (a, instObj 842 da) ∈ news) (hda : (da, dictOf ea na) ∈ news) (ea : gets "index" ea (.int 2 tj)) (hb : (b, instObj 842 db) ∈ news) (hdb : (db, dictOf eb nb) ∈ news) (eb : gets "index" eb (.int 0 ti)) :
   CodeK w loose mean mg mb gd 872 [.ref g, .int 1 t] 1 3 news (fun K => ∀ t, K (.int 1 t) news) := by
  refine' code_of_body (binds := [(Str.ofString "owner", .ref g), (Str.ofString "index", .int 1 t)]) (fun _ _ h H t => h _ _ (H t)) ?ho ?hcd ?hbind ?hloc ?hb ?c1 ?c2 ?c3 ?c4 ?_
  k_extra "nt_body"
  intro dp un outer A₀ base h₀ L s Q E B F X N S T hd hu hE hret
  k_extra "nt_go"
  exact hret _ _ _ _ _ rfl (by k_asm) (by k_asm) (by k_asm)
theorem open_c (h1 : (g, instObj 861 dg) ∈ news) (h2 : (dg, dictOf eg ng) ∈ news) (e1 : gets "open_upvals" eg (.ref go)) (h3 : (go, listOf (List.toArray ([.ref a, .ref b] : List Value)) n) ∈ news) (ha : (a, instObj 842 da) ∈ news) (hda : (da, dictOf ea na) ∈ news) (ea : gets "index" ea (.int 2 tj)) (hb : (b, instObj 842 db) ∈ news) (hdb : (db, dictOf eb nb) ∈ news) (eb : gets "index" eb (.int 0 ti)) :
   CodeK w loose mean mg mb gd 879 [.ref g, .int 1 t] 3 10 news (fun K => K .none news) := by
  refine' code_of_body (binds := [(Str.ofString "owner", .ref g), (Str.ofString "index", .int 1 t)]) (fun _ _ h H => h _ _ H) ?ho ?hcd ?hbind ?hloc ?hb ?c1 ?c2 ?c3 ?c4 ?_
  k_extra "nt_body"
  intro dp un outer A₀ base h₀ L s Q E B F X N S T hd hu hE hret
  k_with "call ref" => ((open YesNtFind in skip); k_here; (with_reducible show wpAny _ _ (call (Value.ref 872) _) _ _ _); k_dflt (refine' code_use (spot_c ?m0 ?m1 ?m2 ?m3 ?m4 ?m5 ?m6 ?m7 ?m8 ?m9) ?kB ?kF ?kX ?kN ?kS ?kP ?kT ?kk ?kd ?ku ?_; k_extra "nt_use0"; (case m0 => first | with_reducible assumption | k_extra "nt_mem"); (case m1 => first | with_reducible assumption | k_extra "nt_mem"); (case m2 => first | with_reducible assumption | k_extra "nt_mem"); (case m3 => first | with_reducible assumption | k_extra "nt_mem"); (case m4 => first | with_reducible assumption | k_extra "nt_mem"); (case m5 => first | with_reducible assumption | k_extra "nt_mem"); (case m6 => first | with_reducible assumption | k_extra "nt_mem"); (case m7 => first | with_reducible assumption | k_extra "nt_mem"); (case m8 => first | with_reducible assumption | k_extra "nt_mem"); (case m9 => first | with_reducible assumption | k_extra "nt_mem"); k_whole); intro t9 h' tk' F' N' S'; (try k_sweep))
  k_extra "nt_go"
  exact hret _ _ _ _ rfl (by k_asm) (by k_asm) (by k_asm)
theorem put_c (h1 : (g, instObj 861 dg) ∈ rest) (h2 : (dg, dictOf eg ng) ∈ rest) (e1 : gets "open_upvals" eg (.ref go)) (ha : (a, instObj 842 da) ∈ rest) (hda : (da, dictOf ea na) ∈ rest) (ea : gets "index" ea (.int 2 tj)) (hb : (b, instObj 842 db) ∈ rest) (hdb : (db, dictOf eb nb) ∈ rest) (eb : gets "index" eb (.int 0 ti)) (hx : (x, instObj 842 dx) ∈ rest) (hdx : (dx, dictOf ex nx) ∈ rest) (exx : gets "index" ex (.int 1 t)) :
   CodeK w loose mean mg mb gd 886 [.ref g, .ref x] 3 10 ((go, listOf (List.toArray ([.ref a, .ref b] : List Value)) n) :: rest) (fun K => K .none ((go, listOf (List.toArray ([.ref a, .ref x, .ref b] : List Value)) (n + 1)) :: rest)) := by
  refine' code_of_body (binds := [(Str.ofString "owner", .ref g), (Str.ofString "upval", .ref x)]) (fun _ _ h H => h _ _ H) ?ho ?hcd ?hbind ?hloc ?hb ?c1 ?c2 ?c3 ?c4 ?_
  k_extra "nt_body"
  intro dp un outer A₀ base h₀ L s Q E B F X N S T hd hu hE hret
  k_with "call ref" => ((open YesNtFind in skip); k_here; (with_reducible show wpAny _ _ (call (Value.ref 872) _) _ _ _); k_dflt (refine' code_use (spot_c (.tail _ h1) (.tail _ h2) e1 (.head _) (.tail _ ha) (.tail _ hda) ea (.tail _ hb) (.tail _ hdb) eb) ?kB ?kF ?kX ?kN ?kS ?kP ?kT ?kk ?kd ?ku ?_; k_extra "nt_use0"; k_whole); intro t9 h' tk' F' N' S'; (try k_sweep))
  k_extra "nt_go"
  exact hret _ _ _ _ rfl (by k_asm) (by k_asm) (by k_asm)
theorem find_c (h1 : (g, instObj 861 dg) ∈ rest) (h2 : (dg, dictOf eg ng) ∈ rest) (e1 : gets "open_upvals" eg (.ref go)) (ha : (a, instObj 842 da) ∈ rest) (hda : (da, dictOf ea na) ∈ rest) (ea : gets "index" ea (.int 2 tj)) (hb : (b, instObj 842 db) ∈ rest) (hdb : (db, dictOf eb nb) ∈ rest) (eb : gets "index" eb (.int 0 ti)) :
   CodeK w loose mean mg mb gd 893 [.ref g, .int 1 t] 7 30 ((go, listOf (List.toArray ([.ref a, .ref b] : List Value)) n) :: rest) (fun K => ∀ x dx kt, K (.ref x) ((go, listOf (List.toArray ([.ref a, .ref x, .ref b] : List Value)) (n + 1)) :: (dx, upvD w.params kt (.ref g) (.int 1 t) .none) :: (x, instObj 842 dx) :: rest)) := by
  refine' code_of_body (binds := [(Str.ofString "owner", .ref g), (Str.ofString "index", .int 1 t)]) (fun _ _ h H x dx kt => h _ _ (H x dx kt)) ?ho ?hcd ?hbind ?hloc ?hb ?c1 ?c2 ?c3 ?c4 ?_
  k_extra "nt_body"
  intro dp un outer A₀ base h₀ L s Q E B F X N S T hd hu hE hret
  k_with "call ref" => ((open YesNtFind in skip); k_here; (with_reducible show wpAny _ _ (call (Value.ref 879) _) _ _ _); k_dflt (refine' code_use (open_c (.tail _ h1) (.tail _ h2) e1 (.head _) (.tail _ ha) (.tail _ hda) ea (.tail _ hb) (.tail _ hdb) eb) ?kB ?kF ?kX ?kN ?kS ?kP ?kT ?kk ?kd ?ku ?_; k_extra "nt_use0"; k_whole); intro h' tk' F' N' S'; (try k_sweep))
  k_with "call ref" => ((open YesNtFind in skip); k_here; (with_reducible show wpAny _ _ (call (Value.ref 842) _) _ _ _); k_dflt (refine' make_use mk_upv ?kB ?kF ?kX ?kN ?kS ?kP ?kT ?kk ?kd ?ku ?_; k_extra "nt_use0"; k_whole); intro x' dx' kt' h' tk' F' N' S'; (try k_sweep))
  k_with "call ref" => ((open YesNtFind in skip); k_here; (with_reducible show wpAny _ _ (call (Value.ref 886) _) _ _ _); k_dflt (refine' code_use (put_c (rest := (_, upvD _ _ _ _ _) :: (_, instObj 842 _) :: rest) (.tail _ (.tail _ h1)) (.tail _ (.tail _ h2)) e1 (.tail _ (.tail _ ha)) (.tail _ (.tail _ hda)) ea (.tail _ (.tail _ hb)) (.tail _ (.tail _ hdb)) eb (.tail _ (.head _)) (.head _) ?ex) ?kB ?kF ?kX ?kN ?kS ?kP ?kT ?kk ?kd ?ku ?_; k_extra "nt_use0"; (case ex => k_extra "nt_gets"); k_whole); intro h' tk' F' N' S'; (try k_sweep))
  k_extra "nt_go"
  exact hret _ _ _ _ _ _ _ rfl (by k_asm) (by k_asm) (by k_asm)
end
end NtMine

end
-- NtTake
section
theorem NtMine.InNtTake.YesNtTake.here : True := True.intro
open NtMine.InNtTake
open PySem PySem.W PySem.Calls PyProof.Rows
set_option Elab.async false
namespace NtMine
set_option maxRecDepth 100000
set_option pp.deepTerms false
set_option pp.maxSteps 3000
section
variable {w : World} {loose : List Str} {mean : ExcName → Option Value} {mg mb : Str → Option Value} {gd : Option (List Code)} {g dg go gs a b c da db dc : Addr} {eg : List DictEntry} {ng n ns : Nat} {t ta tb tc : Tok} {vs : List Value} {va vb vc xa xb xc : Value} {rest : Led} {ka kb kc : Nat → Tok}
set_option maxHeartbeats 4000000
theorem take_says (h1 : (g, instObj 861 dg) ∈ rest) (h2 : (dg, dictOf eg ng) ∈ rest) (e1 : gets "open_upvals" eg (.ref go)) (e2 : gets "stack" eg (.ref gs)) (h3 : (gs, listOf [xa, xb, xc].toArray ns) ∈ rest) (ha : (a, instObj 842 da) ∈ rest) (hb : (b, instObj 842 db) ∈ rest) (hc : (c, instObj 842 dc) ∈ rest) :
   CodeK w loose mean mg mb gd 900 [.ref g, .int 0 t] 5 20 ((go, listOf [.ref c, .ref b, .ref a].toArray n) :: (dc, upvD w.params kc (.ref g) (.int 2 tc) vc) :: (db, upvD w.params kb (.ref g) (.int 1 tb) vb) :: (da, upvD w.params ka (.ref g) (.int 0 ta) va) :: rest)
     (fun K => ∀ r n' t1 t2 t3, K r ((go, listOf #[] n') :: (dc, upvD w.params kc .none (.int (-1) t3) xc) :: (db, upvD w.params kb .none (.int (-1) t2) xb) :: (da, upvD w.params ka .none (.int (-1) t1) xa) :: rest)) := by
  refine' code_of_body (binds := [(Str.ofString "owner", .ref g), (Str.ofString "level", .int 0 t)]) (fun _ _ h H r n' t1 t2 t3 => h _ _ (H r n' t1 t2 t3)) ?ho ?hcd ?hbind ?hloc ?hb ?c1 ?c2 ?c3 ?c4 ?_
  k_extra "nt_body"
  intro dp un outer A₀ base h₀ L s Q E B F X N S T hd hu hE hret
  k_with "call ref" => ((open YesNtTake in skip); k_here; (with_reducible show wpAny _ _ (call (Value.ref 839) _) _ _ _); k_dflt (refine' code_use (up_close ?m1 ?m2 ?m3 ?m4 ?m5 ?m6 ?m7 ?m8) ?kB ?kF ?kX ?kN ?kS ?kP ?kT ?kk ?kd ?ku ?_; k_extra "nt_use0"; (case m1 => k_extra "nt_mem"); (case m2 => k_extra "nt_mem"); (case m3 => k_extra "nt_mem"); (case m4 => with_reducible assumption); (case m5 => k_extra "nt_mem"); (case m6 => decide); (case m7 => decide); (case m8 => exact rfl); k_whole); intro t9 h' tk' F' N' S'; (try k_sweep))
  k_extra "nt_go"
  exact hret _ _ _ _ _ _ _ _ _ rfl (by k_asm) (arr_news (by k_asm) (by k_extra "nt_arr")) (arr_sep (by k_asm) (by k_extra "nt_arr"))
end
end NtMine

end
-- NtFnC
section
theorem NtMine.InNtFnC.YesNtFnC.here : True := True.intro
open NtMine.InNtFnC
open PySem PySem.W PySem.Calls PyProof.Rows NtMine in
set_option maxRecDepth 100000 in
theorem NtMine.lines_26 (P : Params) : (PySem.Challenge.rw_nt0650_01, hd.heap_39 P).1 = PySem.Challenge.rw_nt0650_01 := by
  k_fill
  k_with "nt_ll" => (first | decide | exact of_decide_eq_true rfl | omega)
  k_with "call ref" => (k_here; (with_reducible show wpAny _ _ (call (Value.ref _) _) _ _ _); refine Park.out ?_)
  k_with "nt_cs" => (k_extra "nt_use0"; (all_goals first | k_whole | skip))
  k_with "nt_ms" => (first | with_reducible assumption | k_extra "nt_mem")
  k_with "nt_luaset" => (k_dflt (refine' code_use (lua_set (up_set ?a1 ?a2 ?a3 ?a4 ?a5 ?a6 ?a7 ?a8 ?a9 ?a10 ?a11 ?a12) ?b1 ?b2 ?b3 ?b4 ?b5 ?b6 ?b7 ?b8 ?b9 ?b10) ?kB ?kF ?kX ?kN ?kS ?kP ?kT ?kk ?kd ?ku ?_; k_extra "nt_use0"; (case b4 => k_extra "nt_mem"); (case b5 => k_extra "nt_mem"); (case b6 => k_extra "nt_gets"); (case b7 => k_extra "nt_mem"); (case b8 => decide); (case b9 => decide); (case b10 => exact rfl); (case b1 => k_extra "nt_mem"); (case b2 => k_extra "nt_mem"); (case b3 => k_get); (case a1 => k_extra "nt_mem"); (case a2 => k_extra "nt_mem"); (case a3 => k_extra "nt_gets"); (case a4 => k_extra "nt_gets"); (case a5 => k_extra "nt_mem"); (case a6 => k_extra "nt_mem"); (case a7 => k_extra "nt_gets"); (case a9 => k_extra "nt_put"); (case a8 => k_extra "nt_setw"); (case a10 => k_extra "nt_ll"); (case a11 => k_extra "nt_ll"); (case a12 => k_extra "nt_ll"); k_whole))
  k_with "nt_luasetC" => (k_dflt (refine' code_use (lua_set (up_setC ?a1 ?a2) ?b1 ?b2 ?b3 ?b4 ?b5 ?b6 ?b7 ?b8 ?b9 ?b10) ?kB ?kF ?kX ?kN ?kS ?kP ?kT ?kk ?kd ?ku ?_; k_extra "nt_use0"; (case b4 => k_extra "nt_mem"); (case b5 => k_extra "nt_mem"); (case b6 => k_extra "nt_gets"); (case b7 => k_extra "nt_mem"); (case b8 => decide); (case b9 => decide); (case b10 => exact rfl); (case b1 => k_extra "nt_mem"); (case b2 => k_extra "nt_mem"); (case b3 => k_get); (case a1 => k_extra "nt_mem"); (case a2 => k_extra "nt_put"); k_whole))
  k_with "nt_luaget" => (k_dflt (refine' code_use (lua_get (up_get ?a1 ?a2 ?a3 ?a4 ?a5 ?a6 ?a7 ?a8 ?a9 ?a10 ?a11) ?b1 ?b2 ?b3 ?b4 ?b5 ?b6 ?b7 ?b8 ?b9 ?b10) ?kB ?kF ?kX ?kN ?kS ?kP ?kT ?kk ?kd ?ku ?_; k_extra "nt_use0"; (case b4 => k_extra "nt_mem"); (case b5 => k_extra "nt_mem"); (case b6 => k_extra "nt_gets"); (case b7 => k_extra "nt_mem"); (case b8 => decide); (case b9 => decide); (case b10 => exact rfl); (case b1 => k_extra "nt_mem"); (case b2 => k_extra "nt_mem"); (case b3 => k_get); (case a1 => k_extra "nt_mem"); (case a2 => k_extra "nt_mem"); (case a3 => k_extra "nt_gets"); (case a4 => k_extra "nt_gets"); (case a5 => k_extra "nt_mem"); (case a6 => k_extra "nt_mem"); (case a7 => k_extra "nt_gets"); (case a8 => k_extra "nt_mem"); (case a9 => decide); (case a10 => decide); (case a11 => exact rfl); k_whole))
  k_with "nt_luagetC" => (k_dflt (refine' code_use (lua_get (up_getC ?a1 ?a2 ?a3 ?a4 ?a5) ?b1 ?b2 ?b3 ?b4 ?b5 ?b6 ?b7 ?b8 ?b9 ?b10) ?kB ?kF ?kX ?kN ?kS ?kP ?kT ?kk ?kd ?ku ?_; k_extra "nt_use0"; (case b4 => k_extra "nt_mem"); (case b5 => k_extra "nt_mem"); (case b6 => k_extra "nt_gets"); (case b7 => k_extra "nt_mem"); (case b8 => decide); (case b9 => decide); (case b10 => exact rfl); (case b1 => k_extra "nt_mem"); (case b2 => k_extra "nt_mem"); (case b3 => k_get); (case a1 => k_extra "nt_mem"); (case a2 => k_extra "nt_mem"); (case a3 => k_extra "nt_gets"); (case a4 => k_extra "nt_gets"); (case a5 => k_handed); k_whole))
  k_with "nt_setw" => (first | (simp only [List.set, List.set_cons_zero, List.set_cons_succ, Int.toNat_zero, Int.toNat_one, Int.reduceToNat]; exact rfl) | exact rfl)
  k_with "call ref" => (k_here; (with_reducible show wpAny _ _ (call (Value.ref 446) _) _ _ _); (first | k_extra "nt_luaset" | k_extra "nt_luasetC"); intro h' tk' F' N' S'; (try k_sweep))
  k_with "call ref" => (k_here; (with_reducible show wpAny _ _ (call (Value.ref 439) _) _ _ _); (first | k_extra "nt_luaget" | k_extra "nt_luagetC"); intro h' tk' F' N' S'; (try k_sweep))
  k_with "call ref" => (k_here; (with_reducible show wpAny _ _ (call (Value.ref 735) _) _ _ _); k_dflt (refine' code_use (join_says ?a1 ?a2 ?a3 ?a4 ?a5 ?a6 ?a7 ?a8 ?a9 ?a10 ?a11 ?a12 ?a13 ?a14 ?a15) ?kB ?kF ?kX ?kN ?kS ?kP ?kT ?kk ?kd ?ku ?_; k_extra "nt_use0"; (case a1 => k_extra "nt_mem"); (case a2 => k_extra "nt_mem"); (case a3 => k_extra "nt_gets"); (case a4 => k_extra "nt_mem"); (case a5 => k_extra "nt_mem"); (case a6 => k_extra "nt_gets"); (case a7 => k_extra "nt_mem"); (case a8 => decide); (case a9 => decide); (case a10 => exact rfl); (case a12 => k_extra "nt_put"); (case a11 => k_extra "nt_setw"); (case a13 => k_extra "nt_ll"); (case a14 => k_extra "nt_ll"); (case a15 => k_extra "nt_ll"); k_whole); intro h' tk' F' N' S'; (try k_sweep))
  k_with "nt_likes" => (first | exact LikeAll.nil | (refine' LikeAll.cons ?nta ?ntb; (case nta => k_extra "nt_like"); (case ntb => k_extra "nt_likes")))
  k_with "nt_like" => (first | with_reducible exact Like.refl _ | exact Like.int _ _ _ | exact Like.bytes _ _ _ | exact Like.refl _ | with_reducible assumption)
  k_with "nt_units" => (first | exact Nat.lt_of_le_of_lt (Nat.le_add_right _ _) (by assumption) | ktr_units)
  k_with "compareOp NotEq ref ref" => (refine Park.out ?_)
  k_with "compareOp Eq ref ref" => (refine Park.out ?_)
  k_with "compareOp NotEq ref ref" => (k_here; k_dflt (refine' nt_neL ?N ?m1 ?m2 ?l ?u ?_; (case N => k_asm); (case m1 => k_extra "nt_mem"); (case m2 => k_extra "nt_mem"); (case l => k_extra "nt_likes"); (case u => k_extra "nt_units"); k_whole))
  k_with "compareOp NotEq ref ref" => (k_here; k_dflt (refine' nt_neT ?N ?m1 ?m2 ?l ?u ?_; (case N => k_asm); (case m1 => k_extra "nt_mem"); (case m2 => k_extra "nt_mem"); (case l => k_extra "nt_likes"); (case u => k_extra "nt_units"); k_whole))
  k_with "compareOp Eq ref ref" => (k_here; k_dflt (refine' nt_eqL ?N ?m1 ?m2 ?l ?u ?_; (case N => k_asm); (case m1 => k_extra "nt_mem"); (case m2 => k_extra "nt_mem"); (case l => k_extra "nt_likes"); (case u => k_extra "nt_units"); k_whole))
  k_with "compareOp Eq ref ref" => (k_here; k_dflt (refine' nt_eqT ?N ?m1 ?m2 ?l ?u ?_; (case N => k_asm); (case m1 => k_extra "nt_mem"); (case m2 => k_extra "nt_mem"); (case l => k_extra "nt_likes"); (case u => k_extra "nt_units"); k_whole))
  k_with "nt_seg" => ((case kB => k_asm); (case kX => k_asm); (case kN => k_asm); (case kS => k_asm); (case kP => k_extra "nt_arr"); (case kT => k_asm); (case kd => k_extra "nt_room"); (case ku => k_extra "nt_room"); (case kE => assumption))
  k_with "nt_cat" => (k_with "binaryOp Add bytes bytes" => (k_here; (with_reducible show wpAny _ _ (binaryOp Operator.Add (Value.bytes _ _) (Value.bytes (List.toArray (hexB _ _)) _)) _ _ _); k_dflt (refine' sx_cat ?sk1 ?_; (case sk1 => decide); k_whole); intro t' tk'))
  k_with "exec For Tuple Tuple cons nil" => (k_here; (rename Fr _ _ _ _ => lF'); k_dflt ((with_unfolding_all refine' For_invTF lF' ?_ ?fk1 ?fk2); (case fk1 => (intro x'; exact rfl)); (case fk2 => assumption)))
  k_with "exec For Name Tuple cons nil" => (k_here; (rename Fr _ _ _ _ => lF'); k_dflt ((with_unfolding_all refine' For_invVF lF' ?fk1 ?fk2 ?_ ?fk3 ?fk4); (case fk1 => exact rfl); (case fk2 => exact rfl); (case fk3 => (intro x'; exact rfl)); (case fk4 => assumption)))
  rfl

open PySem PySem.W PySem.Calls PyProof.Rows
set_option Elab.async false
namespace NtMine
set_option maxRecDepth 100000
set_option pp.deepTerms false
set_option pp.maxSteps 3000
set_option rowWalk.seconds 200
section
variable {w : World} {loose : List Str} {mean : ExcName → Option Value} {mg mb : Str → Option Value} {gd : Option (List Code)}
set_option maxHeartbeats 4000000
theorem fn_c {so kp g dg gs go u0 d0 u1 d1 u2 d2 o od ol p pd pl : Addr} {os : Obj} {k0 k1 k2 z1 z2 : Int} {s0 s1 s2 i0 i1 i2 : Tok} {n0 n1 n2 n3 n4 : Nat} {q1 q2 : Value} {kg ka kb kc ko kq : Nat → Tok} :
   SegK w loose mean mg mb gd 925 (Str.ofString "_law_function_right") (tS 73) (.ref 924) (cellsX (tS 73)) ((tB 73).drop 14) 10 100
    (fun m₀ y => if y = Str.ofString "one" then some (.ref o) else if y = Str.ofString "other" then some (.ref p) else if y = Str.ofString "ground" then some (.ref g) else if y = Str.ofString "kept" then some (.ref kp) else m₀ y)
    (fun _ => (gs, listOf [.int k0 s0, .int k1 s1, .int k2 s2].toArray n0) :: (go, listOf [.ref u2, .ref u1, .ref u0].toArray n1) :: (d2, upvD w.params kc (.ref g) (.int 2 i2) .none) :: (d1, upvD w.params kb (.ref g) (.int 1 i1) .none) :: (d0, upvD w.params ka (.ref g) (.int 0 i0) .none) ::
      (pl, listOf [.ref u1].toArray n3) :: (g, instObj 861 dg) :: (dg, grdD w.params kg (.ref gs) (.ref go)) :: (u0, instObj 842 d0) :: (u1, instObj 842 d1) :: (u2, instObj 842 d2) ::
      (o, instObj 456 od) :: (od, luaD w.params ko z1 q1 (.ref ol) .none) :: (ol, listOf [.ref u0, .ref u2].toArray n2) :: (p, instObj 456 pd) :: (pd, luaD w.params kq z2 q2 (.ref pl) .none) ::
      (kp, listOf [.int k0 s0, .int k1 s1, .int k2 s2].toArray n4) :: (so, os) :: [])
    (fun K => K (.bool true) ((so, os) :: [])) := by
  intro dp un outer A₀ base h₀ L m₀ s Q E B F X N S T hd hu hE hret
  refine execs_as rfl ?_
  k_with "call ref" => ((open YesNtFnC in skip); k_here; (with_reducible show wpAny _ _ (call (Value.ref 900) _) _ _ _); k_dflt (refine' code_use (take_says ?a1 ?a2 ?a3 ?a4 ?a5 ?a6 ?a7 ?a8) ?kB ?kF ?kX ?kN ?kS ?kP ?kT ?kk ?kd ?ku ?_; k_extra "nt_use0"; (case a1 => k_extra "nt_mem"); (case a2 => k_extra "nt_mem"); (case a3 => k_extra "nt_gets"); (case a4 => k_extra "nt_gets"); (case a5 => k_extra "nt_mem"); (case a6 => k_extra "nt_mem"); (case a7 => k_extra "nt_mem"); (case a8 => k_extra "nt_mem"); k_whole); intro r' n' t1' t2' t3' h' tk' F' N' S'; (try k_sweep))
  k_extra "nt_go"
  exact hret _ _ _ _ rfl (by k_asm) (arr_news (by k_asm) (by k_extra "nt_arr")) (arr_sep (by k_asm) (by k_extra "nt_arr"))
end
end NtMine

end
-- NtFnA
section
open NtMine.InNtCompL
theorem NtMine.InNtFnA.YesNtFnA.here : True := True.intro
open NtMine.InNtFnA
open PySem PySem.W PySem.Calls PyProof.Rows NtMine in
set_option maxRecDepth 100000 in
theorem NtMine.lines_27 (P : Params) : (PySem.Challenge.rw_nt0650_01, hd.heap_39 P).1 = PySem.Challenge.rw_nt0650_01 := by
  k_fill
  k_with "nt_putf" => (first | with_reducible exact PutF.head | (refine' PutF.tail ?nta; (case nta => k_extra "nt_putf")) | with_reducible assumption)
  k_with "storeName" => (k_here; k_dflt (refine' sx_storeC ?k1 ?k2 ?k3 ?kc ?kP ?kd ?_ ?a ?b; (case a => exact rfl); (case b => exact rfl); (case k1 => k_asm); (case k2 => k_asm); (case k3 => k_asm); (case kc => exact rfl); (case kP => k_extra "nt_putf"); (case kd => with_reducible assumption); k_whole); intro h' o' F' N' S' d'; (try dsimp only at N' S'); (try k_sweep))
  k_with "storeName" => (k_here; k_dflt (refine' sx_store ?k1 ?k2 ?_ ?a ?b; (case a => exact rfl); (case b => exact rfl); (case k1 => k_asm); (case k2 => k_asm); k_whole); intro h' tk' F' N'; (try k_sweep))
  k_with "CompSrc" => (k_here; k_dflt (refine' LCg.CompSrc.range ?q1 ?q2 ?q3 ?q4 ?q5 ?q6 ?q7 ?_; (case q1 => exact rfl); (case q2 => k_asm); (case q3 => k_asm); (case q4 => assumption); (case q5 => first | decide | exact rfl); (case q6 => exact rfl); (case q7 => exact Nat.le_of_ble_eq_true rfl)); intro g')
  k_with "CompRest" => (k_dflt (refine' LCg.CompRest.zero ?_))
  k_with "CompRest" => (k_dflt (refine' sx_turnR ?k1 ?_; (case k1 => k_asm)); intro t' I' oI' C' oC' D' m' h' tk' E' hC' hx' F' N' S')
  k_with "CompEnd" => (k_dflt (refine' sx_end ?k1 ?k2 ?k3 ?k4 ?_; (case k1 => k_asm); (case k2 => k_asm); (case k3 => k_asm); (case k4 => exact True.intro)); intro S')
  k_with "FinE" => (k_dflt (refine' sx_fin ?k1 ?_; (case k1 => k_asm)); intro D' h' tk' F' N' S'; (try simp only [List.nil_append, List.cons_append] at N' S'); (try k_sweep))
  k_with "nt_cut" => (k_here; (with_reducible show wpAny _ _ (subscriptTail _ (PySem.Expr.Slice _ _ none _) (Value.ref _) (Value.ref _)) _ _ _); k_dflt (refine' sx_slice ?cuF ?cuN ?cuS ?cum ?cup ?cuq ?cue ?cuz ?_ ?cus ?cut; (case cuF => k_asm); (case cuN => k_asm); (case cuS => k_asm); (case cum => k_extra "nt_mem"); (case cup => kmk_part); (case cuq => kmk_part); (case cue => k_extra "nt_pickE"); (case cus => with_unfolding_all rfl); (case cut => kmk_pure); (case cuz => k_extra "nt_small"); k_whole); intro l' c' h' F' N' S'; (try k_sweep))
  k_with "subscriptTail Name Slice ref ref" => (k_extra "nt_cut")
  k_with "subscriptTail List Slice ref ref" => (k_extra "nt_cut")
  k_with "subscriptTail Attribute Name Slice ref ref" => (k_extra "nt_cut")
  k_with "nt_prop0" => ((case p1 => (refine' InstAt.of_news ?N ?h1 ?h2; (case N => k_asm); (case h1 => k_extra "nt_mem"); (case h2 => k_extra "nt_mem"))); (case p2 => k_is); (case p3 => k_is); (case p4 => k_is); (case p5 => k_is); (case p6 => k_is); (case p7 => k_is); k_extra "nt_use0")
  k_with "getAttr ref" => (k_here; k_dflt (refine' code_prop (py_count ?a1 ?a2 ?a3 ?a4 ?a5) ?p1 ?p2 ?p3 ?p4 ?p5 ?p6 ?p7 (fun _ _ h H t => h _ _ (H t)) ?kB ?kF ?kX ?kN ?kS ?kP ?kT ?kk ?kd ?ku ?_; k_extra "nt_prop0"; (case a1 => k_extra "nt_mem"); (case a2 => k_extra "nt_mem"); (case a3 => k_extra "nt_gets"); (case a4 => k_extra "nt_mem"); (case a5 => k_extra "nt_ll"); k_whole); intro t9 h' tk' F' N' S'; (refine ⟨rfl, ?_⟩); (try simp only [List.length_cons, List.length_nil, Nat.reduceAdd]); (try k_sweep))
  k_with "getAttr ref" => (k_here; k_dflt (refine' code_prop (lua_count ?a1 ?a2 ?a3 ?a4 ?a5) ?p1 ?p2 ?p3 ?p4 ?p5 ?p6 ?p7 (fun _ _ h H t => h _ _ (H t)) ?kB ?kF ?kX ?kN ?kS ?kP ?kT ?kk ?kd ?ku ?_; k_extra "nt_prop0"; (case a1 => k_extra "nt_mem"); (case a2 => k_extra "nt_mem"); (case a3 => k_extra "nt_gets"); (case a4 => k_extra "nt_mem"); (case a5 => k_extra "nt_ll"); k_whole); intro t9 h' tk' F' N' S'; (refine ⟨rfl, ?_⟩); (try simp only [List.length_cons, List.length_nil, Nat.reduceAdd]); (try k_sweep))
  k_with "call ref" => (k_here; (with_reducible show wpAny _ _ (call (Value.ref 487) _) _ _ _); k_dflt (refine' code_use (py_get ?a1 ?a2 ?a3 ?a4 ?a5 ?a6 ?a7) ?kB ?kF ?kX ?kN ?kS ?kP ?kT ?kk ?kd ?ku ?_; k_extra "nt_use0"; (case a1 => k_extra "nt_mem"); (case a2 => k_extra "nt_mem"); (case a3 => k_extra "nt_gets"); (case a4 => k_extra "nt_mem"); (case a5 => decide); (case a6 => decide); (case a7 => exact rfl); k_whole); intro h' tk' F' N' S'; (try k_sweep))
  k_with "call ref" => (k_here; (with_reducible show wpAny _ _ (call (Value.ref 501) _) _ _ _); k_dflt (refine' code_use py_name ?kB ?kF ?kX ?kN ?kS ?kP ?kT ?kk ?kd ?ku ?_; k_extra "nt_use0"; k_whole); intro t9 h' tk' F' N' S'; (try k_sweep))
  k_with "nt_bodyC" => ((case ho => k_is); (case hcd => k_is); (case hb => exact rfl); (case hbind => (intro s' X'; exact BindsTo.of_eq rfl)); (case hkind => exact rfl); (case hnd => decide +kernel); (case c1 => exact rfl); (case c2 => exact rfl); (case c3 => exact rfl); (case hm => (intro L'; exact rfl)); (case hc => (intro n'; exact rfl)); (case hcv => (intro L'; exact rfl)))
  k_with "call ref" => (k_here; (with_reducible show wpAny _ _ (call (Value.ref 504) _) _ _ _); k_dflt (refine' make_use (mk_py ?a1 ?a2) ?kB ?kF ?kX ?kN ?kS ?kP ?kT ?kk ?kd ?ku ?_; k_extra "nt_use0"; (case a1 => k_extra "nt_mem"); (case a2 => k_extra "nt_ll"); k_whole); intro x' dx' kt' h' tk' F' N' S'; (try simp only [List.length_cons, List.length_nil] at N' S'); (try k_sweep))
  k_with "call ref" => (k_here; (with_reducible show wpAny _ _ (call (Value.ref 456) _) _ _ _); k_dflt (refine' make_use (mk_lua ?a1 ?a2) ?kB ?kF ?kX ?kN ?kS ?kP ?kT ?kk ?kd ?ku ?_; k_extra "nt_use0"; (case a1 => k_extra "nt_mem"); (case a2 => k_extra "nt_ll"); k_whole); intro x' dx' kt' h' tk' F' N' S'; (try k_sweep))
  k_with "call ref" => (k_here; (with_reducible show wpAny _ _ (call (Value.ref 794) _) _ _ _); k_dflt (refine' make_use mk_pro ?kB ?kF ?kX ?kN ?kS ?kP ?kT ?kk ?kd ?ku ?_; k_extra "nt_use0"; k_whole); intro x' dx' kt' bt' h' tk' F' N' S'; (try k_sweep))
  k_with "call ref" => (k_here; (with_reducible show wpAny _ _ (call (Value.ref 861) _) _ _ _); k_dflt (refine' make_use (mk_grd ?a1 ?a2) ?kB ?kF ?kX ?kN ?kS ?kP ?kT ?kk ?kd ?ku ?_; k_extra "nt_use0"; (case a1 => k_extra "nt_mem"); (case a2 => k_extra "nt_ll"); k_whole); intro x' dx' gs' go' kt' c1' c2' h' tk' F' N' S'; (try k_sweep))
  rfl

open PySem PySem.W PySem.Calls PyProof.Rows
set_option Elab.async false
namespace NtMine
set_option maxRecDepth 100000
set_option pp.deepTerms false
set_option pp.maxSteps 3000
set_option rowWalk.seconds 200
section
variable {w : World} {loose : List Str} {mean : ExcName → Option Value} {mg mb : Str → Option Value} {gd : Option (List Code)}
set_option maxHeartbeats 4000000
theorem fn_a2 {so kp x dx ul : Addr} {os oc : Obj} {k0 k1 k2 z at' : Int} {s0 s1 s2 p0 p1 p2 ta tb : Tok} {n0 n1 : Nat} {kt : Nat → Tok} (hoc : oc.data = .cell (some (.ref x)))
   (Z : SegK w loose mean mg mb gd 925 (Str.ofString "_law_function_right") (tS 73) (.ref 924) (cellsX (tS 73)) ((tB 73).drop 7) 12 200
    (fun m₀ y => if y = Str.ofString "kept" then some (.ref kp) else if y = Str.ofString "some" then some (.ref so) else m₀ y) (fun _ => (kp, listOf [.int k0 s0, .int k1 s1, .int k2 s2].toArray n0) :: (so, os) :: []) (fun K => K (.bool true) ((so, os) :: []))) :
   SegK w loose mean mg mb gd 925 (Str.ofString "_law_function_right") (tS 73) (.ref 924) (cellsX (tS 73)) ((tB 73).drop 5) 12 200
    (fun m₀ y => if y = Str.ofString "at" then some (.int at' ta) else if y = Str.ofString "kept" then some (.ref kp) else if y = Str.ofString "some" then some (.ref so) else m₀ y)
    (fun L => (ul, listOf [.int k0 p0, .int k1 p1, .int k2 p2].toArray n1) :: (dx, pyD w.params kt 9 .none (.bytes [116, 119, 111].toArray tb) (.ref ul) .none) :: (x, instObj 504 dx) :: (kp, listOf [.int k0 s0, .int k1 s1, .int k2 s2].toArray n0) :: (L + 1, oc) :: (so, os) :: [])
    (fun K => K (.bool true) ((so, os) :: [])) := by
  intro dp un outer A₀ base h₀ L m₀ s Q E B F X N S T hd hu hE hret
  refine execs_as rfl ?_
  k_with "execs cons" => ((open YesNtFnA in skip); (with_reducible show wpAny _ _ (execs (PySem.Stmt.Assign [PySem.Expr.Tuple [PySem.Expr.Name (PySem.Str.ofString "ground") _, _] _ _] _ _ :: _) _) _ _ _); refine Park.out ?_)
  k_extra "nt_go"
  refine Park.out ?_
  unfold Park
  k_dflt (refine' segk_use Z ?kB ?F1 ?kX ?kN ?kS ?kP ?kT ?kd ?ku ?kE ?R1)
  case F1 =>
    refine fr_put (fr_put (by k_asm) ?_) ?_
    all_goals exact rfl
  k_extra "nt_seg"
  exact hret
theorem set3i {a b c v : Int} {s t u w : Tok} {i : Int} (h0 : 0 ≤ i) (h1 : i < 3) : [Value.int a s, Value.int b t, Value.int c u].set i.toNat (.int v w) =
    [.int (if i = 0 then v else a) (if i = 0 then w else s), .int (if i = 1 then v else b) (if i = 1 then w else t), .int (if i = 2 then v else c) (if i = 2 then w else u)] := by
  have h : i = 0 ∨ i = 1 ∨ i = 2 := by omega
  rcases h with rfl | rfl | rfl <;> rfl
/-- the whole def, by its later parts -/
theorem fn_a1 {so : Addr} {a0 a1 a2 a3 a4 a5 a6 a7 : Int} {t0 t1 t2 t3 t4 t5 t6 t7 : Tok} {more : List Value} {sn : Nat} (hp3 : 0 ≤ a3)
   (Z : ∀ {kp x dx ul : Addr} {oc : Obj} {k0 k1 k2 at' : Int} {s0 s1 s2 p0 p1 p2 ta tb : Tok} {n0 n1 : Nat} {kt : Nat → Tok} (_ : oc.data = .cell (some (.ref x))), SegK w loose mean mg mb gd 925 (Str.ofString "_law_function_right") (tS 73) (.ref 924) (cellsX (tS 73)) ((tB 73).drop 5) 12 200
    (fun m₀ y => if y = Str.ofString "at" then some (.int at' ta) else if y = Str.ofString "kept" then some (.ref kp) else if y = Str.ofString "some" then some (.ref so) else m₀ y)
    (fun L => (ul, listOf [.int k0 p0, .int k1 p1, .int k2 p2].toArray n1) :: (dx, pyD w.params kt 9 .none (.bytes [116, 119, 111].toArray tb) (.ref ul) .none) :: (x, instObj 504 dx) :: (kp, listOf [.int k0 s0, .int k1 s1, .int k2 s2].toArray n0) :: (L + 1, oc) :: (so, listOf (someL a0 a1 a2 a3 a4 a5 a6 a7 t0 t1 t2 t3 t4 t5 t6 t7 more).toArray sn) :: [])
    (fun K => K (.bool true) ((so, listOf (someL a0 a1 a2 a3 a4 a5 a6 a7 t0 t1 t2 t3 t4 t5 t6 t7 more).toArray sn) :: []))) :
   CodeK w loose mean mg mb gd 925 [.ref so] 20 400 ((so, listOf (someL a0 a1 a2 a3 a4 a5 a6 a7 t0 t1 t2 t3 t4 t5 t6 t7 more).toArray sn) :: []) (fun K => K (.bool true) ((so, listOf (someL a0 a1 a2 a3 a4 a5 a6 a7 t0 t1 t2 t3 t4 t5 t6 t7 more).toArray sn) :: [])) := by
  have e3 : 0 ≤ a3.fmod 3 := Int.fmod_nonneg hp3 (by decide)
  have e3' : a3.fmod 3 < 3 := Int.fmod_lt_of_pos _ (by decide)
  refine' code_of_bodyC (binds := [(Str.ofString "some", .ref so)]) (m1 := fun y => if y = Str.ofString "some" then some (.ref so) else none) (fun _ _ h H => h _ _ H) ?ho ?hcd ?hbind ?hkind ?hb ?hnd ?c1 ?c2 ?c3 ?hm ?hc ?hcv ?_
  k_extra "nt_bodyC"
  intro oc hoc dp un outer A₀ base h₀ L m₀ s Q E B F X N S T hd hu hE hret
  k_with "call ref" => ((open YesNtFnA in skip); k_here; (with_reducible show wpAny _ _ (call (Value.ref 494) _) _ _ _); k_dflt (refine' code_use (py_set ?a1 ?a2 ?a3 e3 ?a4 ?a5 (set3i e3 e3')) ?kB ?kF ?kX ?kN ?kS ?kP ?kT ?kk ?kd ?ku ?_; k_extra "nt_use0"; (case a1 => k_extra "nt_mem"); (case a2 => k_extra "nt_mem"); (case a3 => k_extra "nt_gets"); (case a4 => exact e3'); (case a5 => k_extra "nt_ll"); k_whole); intro h' tk' F' N' S'; (try k_sweep))
  k_with "setItem ref int" => ((open YesNtFnA in skip); k_here; (with_reducible show wpAny _ _ (setItem (Value.ref _) (Value.int _ _) _) _ _ _); k_dflt (refine' sx_setI ?k1 ?k2 ?k3 ?kP (set3i e3 e3') ?k4 e3 ?k6 ?_; (case k1 => k_asm); (case k2 => k_asm); (case k3 => k_asm); (case kP => k_extra "nt_put"); (case k4 => k_extra "nt_ll"); (case k6 => exact e3'); k_whole); intro h' F' N' S'; (try k_sweep))
  k_with "execs cons" => ((open YesNtFnA in skip); (with_reducible show wpAny _ _ (execs (PySem.Stmt.If _ _ _ _ :: _) _) _ _ _); refine Park.out ?_)
  k_extra "nt_go"
  refine Park.out ?_
  unfold Park
  k_dflt (refine' segk_use (Z d') ?kB ?F1 ?kX ?kN ?kS ?kP ?kT ?kd ?ku ?kE ?R1)
  case F1 =>
    refine fr_put (fr_put (fr_put (by k_asm) ?_) ?_) ?_
    all_goals exact rfl
  k_extra "nt_seg"
  exact hret
end
end NtMine

end
-- NtFnB
section
open NtMine.InNtCompL
theorem NtMine.InNtFnB.YesNtFnB.here : True := True.intro
open NtMine.InNtFnB
open PySem PySem.W PySem.Calls PyProof.Rows
set_option Elab.async false
namespace NtMine
set_option maxRecDepth 100000
set_option pp.deepTerms false
set_option pp.maxSteps 3000
set_option rowWalk.seconds 200
noncomputable abbrev twoN (ta tb : Tok) : List Value := [.bytes [97].toArray ta, .bytes [98, 99].toArray tb]
noncomputable abbrev updB (bt : Nat → Addr) (l : Addr) : Nat → Addr := fun i => if i = 5 then l else bt i
theorem names_like {m : Int} (h0 : 0 ≤ m) (h1 : m < 3) {ta tb tc td te tf t0 t1 : Tok} :
    LikeAll [if (0 : Int) < (((twoN ta tb).take m.toNat).length : Int) then ((twoN ta tb).take m.toNat).getD (Int.toNat 0) .none else Value.bytes #[] t0, if (1 : Int) < (((twoN ta tb).take m.toNat).length : Int) then ((twoN ta tb).take m.toNat).getD (Int.toNat 1) .none else Value.bytes #[] t1]
      ((((twoN tc td).take m.toNat) ++ [Value.bytes [].toArray te, Value.bytes [].toArray tf]).take (Int.toNat 2)) := by
  have h : m = 0 ∨ m = 1 ∨ m = 2 := by omega
  rcases h with rfl | rfl | rfl
  · exact .cons (.bytes [] _ _) (.cons (.bytes [] _ _) .nil)
  · exact .cons (.bytes [97] _ _) (.cons (.bytes [] _ _) .nil)
  · exact .cons (.bytes [97] _ _) (.cons (.bytes [98, 99] _ _) .nil)
section
variable {w : World} {loose : List Str} {mean : ExcName → Option Value} {mg mb : Str → Option Value} {gd : Option (List Code)}
set_option maxHeartbeats 4000000
theorem fn_b2 {so kp g dg gs go p pd : Addr} {a0 a1 a2 a3 a4 a5 a6 a7 : Int} {t0 t1 t2 t3 t4 t5 t6 t7 : Tok} {more : List Value} {sn : Nat} {k0 k1 k2 : Int} {s0 s1 s2 ta tb : Tok} {n0 n1 n4 nn : Nat} {kg kp' : Nat → Tok} {bt : Nat → Addr} (hp4 : 0 ≤ a4) :
   SegK w loose mean mg mb gd 925 (Str.ofString "_law_function_right") (tS 73) (.ref 924) (cellsX (tS 73)) ((tB 73).drop 9) 11 150
    (fun m₀ y => if y = Str.ofString "proto" then some (.ref p) else if y = Str.ofString "ground" then some (.ref g) else if y = Str.ofString "kept" then some (.ref kp) else if y = Str.ofString "some" then some (.ref so) else m₀ y)
    (fun _ => (go, listOf #[] n1) :: (gs, listOf [.int k0 s0, .int k1 s1, .int k2 s2].toArray n0) :: (g, instObj 861 dg) :: (dg, grdD w.params kg (.ref gs) (.ref go)) :: (bt 5, listOf ((twoN ta tb).take (a4.fmod 3).toNat).toArray nn) ::
      (p, instObj 794 pd) :: (pd, proD w.params kp' bt) :: (kp, listOf [.int k0 s0, .int k1 s1, .int k2 s2].toArray n4) :: (so, listOf (someL a0 a1 a2 a3 a4 a5 a6 a7 t0 t1 t2 t3 t4 t5 t6 t7 more).toArray sn) :: [])
    (fun K => K (.bool true) ((so, listOf (someL a0 a1 a2 a3 a4 a5 a6 a7 t0 t1 t2 t3 t4 t5 t6 t7 more).toArray sn) :: [])) := by
  intro dp un outer A₀ base h₀ L m₀ s Q E B F X N S T hd hu hE hret
  have e4a : 0 ≤ a4.fmod 3 := Int.fmod_nonneg hp4 (by decide)
  have e4b : a4.fmod 3 < 3 := Int.fmod_lt_of_pos _ (by decide)
  refine execs_as rfl ?_
  k_with "call ref" => ((open YesNtFnB in skip); k_here; (with_reducible show wpAny _ _ (call (Value.ref 893) [_, Value.int 0 _]) _ _ _); k_dflt (refine' code_use (find_a (go := go) ?m1 ?m2 ?m3) ?kB ?kF ?kX ?kN ?kS ?kP ?kT ?kk ?kd ?ku ?_; k_extra "nt_use0"; (case m1 => k_extra "nt_mem"); (case m2 => k_extra "nt_mem"); (case m3 => k_extra "nt_gets"); k_whole); intro x' dx' kt' h' tk' F' N' S'; (try k_sweep))
  k_with "call ref" => ((open YesNtFnB in skip); k_here; (with_reducible show wpAny _ _ (call (Value.ref 893) [_, Value.int 2 _]) _ _ _); k_dflt (refine' code_use (find_b (go := go) ?m1 ?m2 ?m3 ?m4 ?m5 ?m6) ?kB ?kF ?kX ?kN ?kS ?kP ?kT ?kk ?kd ?ku ?_; k_extra "nt_use0"; (case m1 => k_extra "nt_mem"); (case m2 => k_extra "nt_mem"); (case m3 => k_extra "nt_gets"); (case m4 => k_extra "nt_mem"); (case m5 => k_extra "nt_mem"); (case m6 => k_extra "nt_gets"); k_whole); intro x' dx' kt' h' tk' F' N' S'; (try k_sweep))
  k_with "call ref" => ((open YesNtFnB in skip); k_here; (with_reducible show wpAny _ _ (call (Value.ref 893) [_, Value.int 1 _]) _ _ _); k_dflt (refine' code_use (find_c (go := go) ?m1 ?m2 ?m3 ?m4 ?m5 ?m6 ?m7 ?m8 ?m9) ?kB ?kF ?kX ?kN ?kS ?kP ?kT ?kk ?kd ?ku ?_; k_extra "nt_use0"; (case m1 => k_extra "nt_mem"); (case m2 => k_extra "nt_mem"); (case m3 => k_extra "nt_gets"); (case m4 => k_extra "nt_mem"); (case m5 => k_extra "nt_mem"); (case m6 => k_extra "nt_gets"); (case m7 => k_extra "nt_mem"); (case m8 => k_extra "nt_mem"); (case m9 => k_extra "nt_gets"); k_whole); intro x' dx' kt' h' tk' F' N' S'; (try k_sweep))
  k_with "call ref" => ((open YesNtFnB in skip); k_here; (with_reducible show wpAny _ _ (call (Value.ref 453) _) _ _ _); k_dflt (refine' code_use (lua_name ?m1 ?m2 ?m3 ?m4 ?m5 ?m6 ?m7 ?m8 ?m9 ?m10) ?kB ?kF ?kX ?kN ?kS ?kP ?kT ?kk ?kd ?ku ?_; k_extra "nt_use0"; (case m1 => k_extra "nt_mem"); (case m2 => k_extra "nt_mem"); (case m3 => k_extra "nt_gets"); (case m4 => k_extra "nt_mem"); (case m5 => k_extra "nt_mem"); (case m6 => k_extra "nt_gets"); (case m7 => k_extra "nt_mem"); (case m8 => k_extra "nt_small"); (case m9 => decide); (case m10 => decide); k_whole); intro t9' h' tk' F' N' S'; (try k_sweep))
  k_with "compareOp NotEq ref ref" => ((open YesNtFnB in skip); k_here; k_dflt (refine' nt_neL ?cN ?cm1 ?cm2 (names_like e4a e4b) ?cu ?_; (case cN => k_asm); (case cm1 => k_extra "nt_mem"); (case cm2 => k_extra "nt_mem"); (case cu => k_extra "nt_units"); k_whole))
  k_with "execs cons" => ((open YesNtFnB in skip); (with_reducible show wpAny _ _ (execs (PySem.Stmt.Expr _ _ :: _) _) _ _ _); refine Park.out ?_)
  k_extra "nt_go"
  refine Park.out ?_
  unfold Park
  k_dflt (refine' segk_use (fn_c (so := so) (gs := gs) (go := go) (dg := dg)) ?kB ?F1 ?kX ?kN ?kS ?kP ?kT ?kd ?ku ?kE ?R1)
  case F1 =>
    refine fr_put (fr_put (fr_put (fr_put (by k_asm) ?_) ?_) ?_) ?_
    all_goals exact rfl
  k_extra "nt_seg"
  exact hret
theorem fn_b1 {so kp : Addr} {a0 a1 a2 a3 a4 a5 a6 a7 : Int} {t0 t1 t2 t3 t4 t5 t6 t7 : Tok} {more : List Value} {sn : Nat} {k0 k1 k2 : Int} {s0 s1 s2 : Tok} {n4 : Nat} (hp4 : 0 ≤ a4) :
   SegK w loose mean mg mb gd 925 (Str.ofString "_law_function_right") (tS 73) (.ref 924) (cellsX (tS 73)) ((tB 73).drop 7) 12 200
    (fun m₀ y => if y = Str.ofString "kept" then some (.ref kp) else if y = Str.ofString "some" then some (.ref so) else m₀ y)
    (fun _ => (kp, listOf [.int k0 s0, .int k1 s1, .int k2 s2].toArray n4) :: (so, listOf (someL a0 a1 a2 a3 a4 a5 a6 a7 t0 t1 t2 t3 t4 t5 t6 t7 more).toArray sn) :: [])
    (fun K => K (.bool true) ((so, listOf (someL a0 a1 a2 a3 a4 a5 a6 a7 t0 t1 t2 t3 t4 t5 t6 t7 more).toArray sn) :: [])) := by
  intro dp un outer A₀ base h₀ L m₀ s Q E B F X N S T hd hu hE hret
  have e4a : 0 ≤ a4.fmod 3 := Int.fmod_nonneg hp4 (by decide)
  have e4b : a4.fmod 3 < 3 := Int.fmod_lt_of_pos _ (by decide)
  refine execs_as rfl ?_
  k_with "execs cons" => ((open YesNtFnB in skip); (with_reducible show wpAny _ _ (execs (PySem.Stmt.Assign [PySem.Expr.Name (PySem.Str.ofString "one") _] _ _ :: _) _) _ _ _); refine Park.out ?_)
  k_extra "nt_go"
  refine Park.out ?_
  unfold Park
  k_dflt (refine' segk_use (fn_b2 (so := so) (gs := gs') (go := go') (bt := updB bt' l') hp4) ?kB ?F1 ?kX ?kN ?kS ?kP ?kT ?kd ?ku ?kE ?R1)
  case F1 =>
    refine fr_put (fr_put (fr_put (fr_put (by k_asm) ?_) ?_) ?_) ?_
    all_goals exact rfl
  k_extra "nt_seg"
  exact hret
end
/-- function_right answers True -/
theorem function_says {w : World} {loose : List Str} {mean : ExcName → Option Value} {mg mb : Str → Option Value} {gd : Option (List Code)} {so : Addr} {a0 a1 a2 a3 a4 a5 a6 a7 : Int} {t0 t1 t2 t3 t4 t5 t6 t7 : Tok} {more : List Value} {sn : Nat} (hp3 : 0 ≤ a3) (hp4 : 0 ≤ a4) :
   CodeK w loose mean mg mb gd 925 [.ref so] 20 400 ((so, listOf (someL a0 a1 a2 a3 a4 a5 a6 a7 t0 t1 t2 t3 t4 t5 t6 t7 more).toArray sn) :: []) (fun K => K (.bool true) ((so, listOf (someL a0 a1 a2 a3 a4 a5 a6 a7 t0 t1 t2 t3 t4 t5 t6 t7 more).toArray sn) :: [])) :=
  fn_a1 hp3 fun h => fn_a2 (z := 0) h (fn_b1 hp4)
end NtMine

end
-- NtHexP
section
open PySem PySem.W PySem.Calls PyProof.Rows
set_option Elab.async false
namespace NtMine
set_option pp.deepTerms false
set_option pp.maxSteps 3000
noncomputable def hexDigits : List UInt8 := [48, 49, 50, 51, 52, 53, 54, 55, 56, 57, 97, 98, 99, 100, 101, 102]
noncomputable def hexDig (d : Int) : UInt8 := hexDigits.getD d.toNat 0
/-- what is left of the work: the signs found so far stand behind -/
noncomputable def hexGo : Nat → Int → Int → List UInt8 → List UInt8
  | 0, _, _, f => f
  | k + 1, n, w, f => if 0 < n ∨ (f.length : Int) < w then hexGo k (n.fdiv 16) w (hexDig (n.fmod 16) :: f) else f
noncomputable def hexB (n w : Int) : List UInt8 := hexGo 12 n w []
theorem hexGo_stop {k : Nat} {n w : Int} {f : List UInt8} (h : ¬ (0 < n ∨ (f.length : Int) < w)) : hexGo k n w f = f := by
  cases k with
  | zero => rfl
  | succ k => rw [hexGo, if_neg h]
/-- as much room as is wanted -/
noncomputable def HexRoom (k : Nat) (n w : Int) (c : Nat) : Prop := 0 ≤ n ∧ n < 16 ^ k ∧ w ≤ (c : Int) + k
theorem HexRoom.step {k : Nat} {n w : Int} {c : Nat} (h : HexRoom (k + 1) n w c) : HexRoom k (n.fdiv 16) w (c + 1) := by
  obtain ⟨h0, h1, h2⟩ := h
  have e := Int.fdiv_eq_ediv_of_nonneg n (show (0 : Int) ≤ 16 by decide)
  refine ⟨by rw [e]; omega, ?_, by omega⟩
  rw [e]
  refine Int.ediv_lt_of_lt_mul (by decide) ?_
  rw [Int.pow_succ] at h1
  exact h1
theorem HexRoom.more {k : Nat} {n w : Int} {c : Nat} (h : HexRoom k n w c) (t : 0 < n ∨ (c : Int) < w) : ∃ j, k = j + 1 := by
  cases k with
  | succ j => exact ⟨j, rfl⟩
  | zero =>
    obtain ⟨h0, h1, h2⟩ := h
    rw [Int.pow_zero] at h1
    omega
theorem HexRoom.start {n w : Int} (h0 : 0 ≤ n) (h1 : n < 10 ^ 12) (h2 : w ≤ 11) : HexRoom 12 n w 0 := ⟨h0, by omega, by omega⟩
theorem hex_picks : ∀ j : Fin 16, KBy.whole hexDigits.toArray (some (j.val : Int)) (some ((j.val : Int) + 1)) = false ∧ KBy.picked hexDigits.toArray (some (j.val : Int)) (some ((j.val : Int) + 1)) = [hexDig (j.val : Int)].toArray := by decide +kernel
section
variable {prog : Program} {w : World} {A : Around} {E : Value → Shared → Prop} {s : Shared} {value slice : PySem.Expr} {b : Array UInt8} {t : Tok} {h₀ : Heap} {L : Addr} {m : PySem.Str → Option Value} {news : Led} {k : Int} {u1 u2 : Tok} {Q : Value → Shared → Prop}
theorem hex_cut (hF : Fr h₀ L s.heap m) (hN : News h₀ L s.heap news) (hb : b = hexDigits.toArray) (h0 : 0 ≤ k) (h1 : k < 16)
    (h : ∀ h' t' tk, Fr h₀ L h' m → News h₀ L h' news → Q (.bytes [hexDig k].toArray t') { s with heap := h', toks := tk })
    (hs : subscripted slice false (.bytes b t) (.ref s.heap.objs.size) = operate [.ref s.heap.objs.size, .bytes b t] (getItem (.bytes b t) (.ref s.heap.objs.size)))
    (ht : ∀ r, letTemporaryGo value (.bytes b t) r = pure ()) :
    wpAny (model prog w) A (subscriptTail value slice (.bytes b t) (.ref s.heap.objs.size)) Q E { s with heap := s.heap.push { cls := .type "slice", data := .fields #[.int k u1, .int (k + 1) u2, .none] } } := by
  have e : ((⟨k.toNat, by omega⟩ : Fin 16).val : Int) = k := by show ((k.toNat : Nat) : Int) = k; omega
  have q := hex_picks ⟨k.toNat, by omega⟩
  rw [e] at q
  subst hb
  refine KBy.slice_N hF hN (.int k u1) (.int (k + 1) u2) q.1 (by rw [q.2]; exact Nat.le_of_ble_eq_true rfl) (fun h' t' tk F' N' => ?_) hs ht
  rw [q.2]
  exact h h' t' tk F' N'
theorem hex_add {d : UInt8} {f : List UInt8} (hf : f.length ≤ 100) (h : ∀ t' tk, Q (.bytes (d :: f).toArray t') { s with toks := tk }) : wpAny (model prog w) A (binaryOp .Add (.bytes [d].toArray u1) (.bytes f.toArray u2)) Q E s :=
  KBy.add_bytes (by rw [List.size_toArray, List.size_toArray]; simp; omega) fun t' tk => by
    have e : [d].toArray ++ f.toArray = (d :: f).toArray := by simp
    rw [e]
    exact h t' tk
end
end NtMine

end
-- NtLHexP
section
open PySem PySem.W PySem.Calls PyProof.Rows
set_option Elab.async false
namespace NtMine
set_option pp.deepTerms false
set_option pp.maxSteps 3000
noncomputable abbrev hexS (b : UInt8) : Str := ⟨#[b.toNat]⟩
theorem hex_item0 : ∀ j : Fin 16, Txt.item (Str.ofString "0123456789abcdef") (j.val : Int) = hexS (hexDig (j.val : Int)) := by decide +kernel
theorem hex_item {k : Int} (h0 : 0 ≤ k) (h1 : k < 16) : Txt.item (Str.ofString "0123456789abcdef") k = hexS (hexDig k) := by
  have e : ((⟨k.toNat, by omega⟩ : Fin 16).val : Int) = k := by show ((k.toNat : Nat) : Int) = k; omega
  have q := hex_item0 ⟨k.toNat, by omega⟩
  rw [e] at q
  exact q
theorem strs_reverse : ∀ {vs : List Value} {ss : List Str}, StrsAre vs ss → StrsAre vs.reverse ss.reverse
  | _, _, .nil => .nil
  | _, _, .cons y t h => by
    rw [List.reverse_cons, List.reverse_cons]
    exact (strs_reverse h).append' (.cons y t .nil)
theorem hex_fold : ∀ (l : List UInt8) (acc : Array Nat), ((l.map hexS).foldl (fun acc p => acc ++ (Str.ofString "").cps ++ p.cps) acc).toList = acc.toList ++ l.map (·.toNat)
  | [], acc => by simp
  | a :: r, acc => by
    rw [List.map_cons, List.foldl_cons, hex_fold r]
    have e : (Str.ofString "").cps = #[] := rfl
    rw [e]
    simp
theorem hex_join : ∀ f : List UInt8, (Txt.join (Str.ofString "") (f.map hexS)).cps.toList = f.map (·.toNat)
  | [] => rfl
  | a :: r => by
    show ((r.map hexS).foldl (fun acc p => acc ++ (Str.ofString "").cps ++ p.cps) (hexS a).cps).toList = _
    rw [hex_fold]
    rfl
theorem hex_sizes (f : List UInt8) (h : f.length ≤ 100) : ((f.map hexS).map (·.length)).sum + (f.map hexS).length * (Str.ofString "").length ≤ 16777216 := by
  have e : ((f.map hexS).map (·.length)).sum = f.length := by
    clear h
    induction f with
    | nil => rfl
    | cons a r ih => rw [List.map_cons, List.map_cons, List.sum_cons, ih, List.length_cons]; show 1 + r.length = _; omega
  have e2 : (Str.ofString "").length = 0 := by decide
  rw [e, e2]
  omega
theorem byte_back : (Nat.toUInt8 ∘ fun x : UInt8 => x.toNat) = id := funext fun a => UInt8.ofNat_toNat
theorem dig_lt : ∀ d ∈ hexDigits, d.toNat < 128 := by decide +kernel
theorem hexDig_lt (k : Int) : (hexDig k).toNat < 128 := by
  unfold hexDig
  rw [List.getD_eq_getElem?_getD]
  cases h : hexDigits[k.toNat]? with
  | none => decide
  | some d => exact dig_lt d (List.mem_of_getElem? h)
end NtMine

end
-- NtHexS
section
theorem NtMine.InNtHexS.YesNtHexS.here : True := True.intro
open NtMine.InNtHexS
open PySem PySem.W PySem.Calls PyProof.Rows
set_option Elab.async false
namespace NtMine
set_option maxRecDepth 100000
set_option pp.deepTerms false
set_option pp.maxSteps 3000
section
variable {w : World} {loose : List Str} {mean : ExcName → Option Value} {mg mb : Str → Option Value} {gd : Option (List Code)}
set_option maxHeartbeats 4000000
theorem hex_k {nb wd : Int} {t1 t2 : Tok} {news : Led} (h0 : 0 ≤ nb) (h1 : nb < 10 ^ 12) (h2 : 0 ≤ wd ∧ wd ≤ 11) :
   CodeK w loose mean mg mb gd 728 [.int nb t1, .int wd t2] 2 60 news (fun K => ∀ t, K (.bytes (hexB nb wd).toArray t) news) := by
  refine' code_of_body (binds := [(Str.ofString "number", .int nb t1), (Str.ofString "width", .int wd t2)]) (fun _ _ h H t => h _ _ (H t)) ?ho ?hcd ?hbind ?hloc ?hb ?c1 ?c2 ?c3 ?c4 ?_
  k_extra "nt_body"
  intro dp un outer A₀ base h₀ L s Q E B F X N S T hd hu hE hret
  k_with "binaryOp Add bytes bytes" => ((open YesNtHexS in skip); k_here; (with_reducible show wpAny _ _ (binaryOp Operator.Add (Value.bytes _ _) (Value.bytes _ _)) _ _ _); k_dflt (refine' hex_add ?hk1 ?_; (case hk1 => omega); k_whole); intro t' tk')
  k_with "subscriptTail Name Slice bytes ref" => ((open YesNtHexS in skip); k_here; k_dflt (refine' hex_cut ?hk1 ?hk2 ?hk3 ?hk4 ?hk5 ?_ ?hk7 ?hk8; (case hk1 => k_asm); (case hk2 => k_asm); (case hk3 => exact rfl); (case hk4 => omega); (case hk5 => omega); (case hk7 => with_unfolding_all rfl); (case hk8 => kmk_pure); k_whole); intro h' t' tk' F' N')
  k_with "exec While BoolOp cons cons nil" => ((open YesNtHexS in skip); refine Park.out ?_)
  k_with "exec While BoolOp cons nil" => ((open YesNtHexS in skip); refine Park.out ?_)
  k_extra "nt_go"
  refine Park.out ?_
  unfold Park
  rename Fr _ _ _ _ => F₁
  rename News _ _ _ _ => N₁
  k_dflt (refine nt_while2 (x := Str.ofString "found") (x' := Str.ofString "number") (n₀ := 12) (fun k u u' nx => ∃ f n t t', u = .bytes (List.toArray f) t ∧ u' = .int n t' ∧ nx = news ∧ HexRoom k n wd f.length ∧ f.length ≤ 12 ∧ f.length + k = 12 ∧ hexGo k n wd f = hexB nb wd) F₁ N₁ rfl rfl ⟨[], nb, _, _, rfl, rfl, rfl, HexRoom.start h0 h1 h2.2, by decide, rfl, rfl⟩ ?ct hE)
  rintro k u u' nx h tk ⟨f, n, t, t', rfl, rfl, rfl, hR, hf, hk', hgo⟩ F' N'
  have hn0 := hR.1
  have hn16 : 0 ≤ n.fmod 16 ∧ n.fmod 16 < 16 := ⟨Int.fmod_nonneg hn0 (by decide), Int.fmod_lt_of_pos _ (by decide)⟩
  k_extra "nt_go"
  · obtain ⟨j, rfl⟩ := hR.more (.inl (by assumption))
    refine WhileStep.intro (n' := j) (by k_asm) (by k_asm) (by omega) ⟨fun z h1 h2 => by simp only [if_neg h1, if_neg h2], _, _, by rw [if_neg (by decide), if_pos rfl], if_pos rfl, _, _, _, _, rfl, rfl, rfl, hR.step, by rw [List.length_cons]; omega, by rw [List.length_cons]; omega, ?_⟩
    rw [hexGo, if_pos (.inl (by assumption))] at hgo
    exact hgo
  · have hlt : (f.length : Int) < wd := by simpa using (show (f.toArray.size : Int) < wd by assumption)
    obtain ⟨j, rfl⟩ := hR.more (.inr hlt)
    refine WhileStep.intro (n' := j) (by k_asm) (by k_asm) (by omega) ⟨fun z h1 h2 => by simp only [if_neg h1, if_neg h2], _, _, by rw [if_neg (by decide), if_pos rfl], if_pos rfl, _, _, _, _, rfl, rfl, rfl, hR.step, by rw [List.length_cons]; omega, by rw [List.length_cons]; omega, ?_⟩
    rw [hexGo, if_pos (.inr hlt)] at hgo
    exact hgo
  · have hlt : ¬ (f.length : Int) < wd := by simpa using (show ¬ (f.toArray.size : Int) < wd by assumption)
    rw [hexGo_stop (fun e => e.elim (by assumption) hlt)] at hgo
    exact hret _ _ _ _ _ (by rw [← hgo]) (by k_asm) (by k_asm) S
theorem lhex_k {nb wd : Int} {t1 t2 : Tok} {news : Led} (h0 : 0 ≤ nb) (h1 : nb < 10 ^ 12) (h2 : 0 ≤ wd ∧ wd ≤ 11) :
   CodeK w loose mean mg mb gd 932 [.int nb t1, .int wd t2] 2 60 news (fun K => ∀ t, K (.bytes (hexB nb wd).toArray t) news) := by
  refine' code_of_body (binds := [(Str.ofString "number", .int nb t1), (Str.ofString "width", .int wd t2)]) (fun _ _ h H t => h _ _ (H t)) ?ho ?hcd ?hbind ?hloc ?hb ?c1 ?c2 ?c3 ?c4 ?_
  k_extra "nt_body"
  intro dp un outer A₀ base h₀ L s Q E B F X N S T hd hu hE hret
  k_with "exec While BoolOp cons cons nil" => ((open YesNtHexS in skip); refine Park.out ?_)
  k_with "exec While BoolOp cons nil" => ((open YesNtHexS in skip); refine Park.out ?_)
  k_with "subscriptTail Name Slice ref ref" => ((open YesNtHexS in skip); refine Park.out ?_)
  k_with "call builtin:str.join" => ((open YesNtHexS in skip); refine Park.out ?_)
  k_with "call builtin:str.encode" => ((open YesNtHexS in skip); refine Park.out ?_)
  k_extra "nt_go"
  refine Park.out ?_
  unfold Park
  rename Fr _ _ _ _ => F₁
  rename News _ _ _ _ => N₁
  rename Sep _ => S₁
  k_dflt (refine nt_while1 (x := Str.ofString "number") (n₀ := 12) (fun k u nx => ∃ f n t ys nn, u = .int n t ∧ nx = (_, listOf (List.toArray ys) nn) :: news ∧ Sep nx ∧ StrsAre ys (f.reverse.map hexS) ∧ HexRoom k n wd f.length ∧ (∀ d ∈ f, d.toNat < 128) ∧ f.length + k = 12 ∧ hexGo k n wd f = hexB nb wd) F₁ N₁ rfl ⟨[], nb, _, [], _, rfl, rfl, S₁, .nil, HexRoom.start h0 h1 h2.2, fun _ h => (nomatch h), rfl, rfl⟩ ?ct hE)
  rintro k u nx h tk ⟨f, n, t, ys, nn, rfl, rfl, S₂, hys, hR, ha, hk', hgo⟩ F' N'
  have hn0 := hR.1
  have hn16 : 0 ≤ n.fmod 16 ∧ n.fmod 16 < 16 := ⟨Int.fmod_nonneg hn0 (by decide), Int.fmod_lt_of_pos _ (by decide)⟩
  have hyl : ys.length = f.length := by have := hys.length; simpa using this
  k_extra "nt_go"
  rotate_right
  · refine Park.out ?_
    unfold Park
    k_dflt (refine' krv_lit (its := ys.toArray) (zs := ys.reverse) ?lF ?lN ?ll (IsPart.int _ _) ?le ?_ ?ls ?lt ?lz; (case lF => k_asm); (case lN => k_asm); (case ll => kmk_list); (case le => simp); (case ls => with_unfolding_all rfl); (case lt => kmk_pure); (case lz => (rw [List.size_toArray, sizeLine_eq]; omega)))
    intro D' h' F' N' l1
    k_extra "nt_go"
    refine Park.out ?_
    unfold Park
    have hrev := strs_reverse hys
    rw [← List.map_reverse, List.reverse_reverse] at hrev
    k_dflt (refine' join_list (ys := f.map hexS) ?jl hrev (hex_sizes f (by omega)) ?_; (case jl => kmk_list))
    intro t' k'
    k_extra "nt_go"
    refine Park.out ?_
    unfold Park
    have hj := hex_join f
    have hlt : ¬ (f.length : Int) < wd := by rw [← hyl]; assumption
    rw [hexGo_stop (fun e => e.elim (by assumption) hlt)] at hgo
    k_dflt (refine nt_encode (fun c hc => ?_) ?_ ?_)
    · rw [hj] at hc
      obtain ⟨d, hd, rfl⟩ := List.mem_map.mp hc
      exact ha d hd
    · rw [← Array.length_toList, hj, List.length_map]; omega
    · intro t' k'
      have e : Array.map Nat.toUInt8 (Txt.join (Str.ofString "") (f.map hexS)).cps = (hexB nb wd).toArray := by
        apply Array.toList_inj.mp
        rw [Array.toList_map, hj, ← hgo, List.map_map, byte_back, List.map_id]
      k_extra "nt_go"
      exact hret _ _ _ _ _ (by rw [← e]) (by k_asm) (drop1 (drop1 (by k_asm))) S
  · obtain ⟨j, rfl⟩ := hR.more (.inl (by assumption))
    rw [hexGo, if_pos (.inl (by assumption))] at hgo
    rename News _ _ _ _ => N₂
    rename Sep _ => S₃
    rw [hex_item hn16.1 hn16.2] at N₂ S₃
    refine WhileStep.intro (n' := j) (by k_asm) N₂ (by omega) ⟨fun z h1 => by simp only [if_neg h1], _, if_pos rfl, hexDig (n.fmod 16) :: f, _, _, _, _, rfl, rfl, S₃, ?_, hR.step, ?_, by rw [List.length_cons]; omega, hgo⟩
    · rw [List.reverse_cons, List.map_append]
      exact hys.append' (.cons _ _ .nil)
    · intro d hd
      rcases List.mem_cons.mp hd with rfl | hd
      · exact hexDig_lt _
      · exact ha d hd
  · have hlt : (f.length : Int) < wd := by rw [← hyl]; assumption
    obtain ⟨j, rfl⟩ := hR.more (.inr hlt)
    rw [hexGo, if_pos (.inr hlt)] at hgo
    rename News _ _ _ _ => N₂
    rename Sep _ => S₃
    rw [hex_item hn16.1 hn16.2] at N₂ S₃
    refine WhileStep.intro (n' := j) (by k_asm) N₂ (by omega) ⟨fun z h1 => by simp only [if_neg h1], _, if_pos rfl, hexDig (n.fmod 16) :: f, _, _, _, _, rfl, rfl, S₃, ?_, hR.step, ?_, by rw [List.length_cons]; omega, hgo⟩
    · rw [List.reverse_cons, List.map_append]
      exact hys.append' (.cons _ _ .nil)
    · intro d hd
      rcases List.mem_cons.mp hd with rfl | hd
      · exact hexDig_lt _
      · exact ha d hd
end
end NtMine

end
-- NtEnv
section
theorem NtMine.InNtEnv.YesNtEnv.here : True := True.intro
open NtMine.InNtEnv
open PySem PySem.W PySem.Calls PyProof.Rows
set_option Elab.async false
namespace NtMine
set_option maxRecDepth 100000
set_option pp.deepTerms false
set_option pp.maxSteps 3000
theorem hexGo_len : ∀ (k : Nat) (n w : Int) (f : List UInt8), (hexGo k n w f).length ≤ k + f.length
  | 0, _, _, f => by rw [hexGo]; omega
  | k + 1, n, w, f => by
    rw [hexGo]
    split
    · have := hexGo_len k (n.fdiv 16) w (hexDig (n.fmod 16) :: f)
      rw [List.length_cons] at this
      omega
    · omega
theorem hexB_len (n w : Int) : (hexB n w).length ≤ 12 := hexGo_len 12 n w []
theorem sx_cat {prog : Program} {w : World} {A : Around} {E : Value → Shared → Prop} {hp : Heap} {g : Array GenState} {d : Drawn} {tk : Nat} {os : OsState} {a : List UInt8} {n wd : Int} {u1 u2 : Tok} {Q : Value → Shared → Prop} (ha : a.length ≤ 100)
    (h : ∀ t' tk', Q (.bytes (a ++ hexB n wd).toArray t') ⟨hp, g, d, tk', os⟩) : wpAny (model prog w) A (binaryOp .Add (.bytes a.toArray u1) (.bytes (hexB n wd).toArray u2)) Q E ⟨hp, g, d, tk, os⟩ :=
  KBy.add_bytes (by rw [List.size_toArray, List.size_toArray]; have := hexB_len n wd; omega) fun t' tk' => by
    have e : a.toArray ++ (hexB n wd).toArray = (a ++ hexB n wd).toArray := by simp
    rw [e]
    exact h t' tk'
section
variable {w : World} {loose : List Str} {mean : ExcName → Option Value} {mg mb : Str → Option Value} {gd : Option (List Code)} {x dx : Addr} {es : List DictEntry} {n : Nat} {e v : Value} {t tb : Tok} {N0 : Int} {news news' : Led} {kt : Nat → Tok} {bt : Nat → Addr}
set_option maxHeartbeats 4000000
theorem isf_lua (h1 : (x, instObj 456 dx) ∈ news) (h2 : (dx, dictOf es n) ∈ news) : CodeK w loose mean mg mb gd 714 [.ref x] 1 20 news (fun K => K (.bool true) news) := by
  refine' code_of_body (binds := [(Str.ofString "value", .ref x)]) (fun _ _ h H => h _ _ H) ?ho ?hcd ?hbind ?hloc ?hb ?c1 ?c2 ?c3 ?c4 ?_
  k_extra "nt_body"
  intro dp un outer A₀ base h₀ L s Q E B F X N S T hd hu hE hret
  k_extra "nt_go"
  exact hret _ _ _ _ rfl (by k_asm) (arr_news (by k_asm) (by k_extra "nt_arr")) (arr_sep (by k_asm) (by k_extra "nt_arr"))
theorem isf_py (h1 : (x, instObj 504 dx) ∈ news) (h2 : (dx, dictOf es n) ∈ news) : CodeK w loose mean mg mb gd 714 [.ref x] 1 20 news (fun K => K (.bool true) news) := by
  refine' code_of_body (binds := [(Str.ofString "value", .ref x)]) (fun _ _ h H => h _ _ H) ?ho ?hcd ?hbind ?hloc ?hb ?c1 ?c2 ?c3 ?c4 ?_
  k_extra "nt_body"
  intro dp un outer A₀ base h₀ L s Q E B F X N S T hd hu hE hret
  k_extra "nt_go"
  exact hret _ _ _ _ rfl (by k_asm) (arr_news (by k_asm) (by k_extra "nt_arr")) (arr_sep (by k_asm) (by k_extra "nt_arr"))
theorem isf_dat (h1 : (x, instObj 523 dx) ∈ news) (h2 : (dx, dictOf es n) ∈ news) : CodeK w loose mean mg mb gd 714 [.ref x] 1 20 news (fun K => K (.bool false) news) := by
  refine' code_of_body (binds := [(Str.ofString "value", .ref x)]) (fun _ _ h H => h _ _ H) ?ho ?hcd ?hbind ?hloc ?hb ?c1 ?c2 ?c3 ?c4 ?_
  k_extra "nt_body"
  intro dp un outer A₀ base h₀ L s Q E B F X N S T hd hu hE hret
  k_extra "nt_go"
  exact hret _ _ _ _ rfl (by k_asm) (arr_news (by k_asm) (by k_extra "nt_arr")) (arr_sep (by k_asm) (by k_extra "nt_arr"))
theorem isf_thr (h1 : (x, instObj 677 dx) ∈ news) (h2 : (dx, dictOf es n) ∈ news) : CodeK w loose mean mg mb gd 714 [.ref x] 1 20 news (fun K => K (.bool false) news) := by
  refine' code_of_body (binds := [(Str.ofString "value", .ref x)]) (fun _ _ h H => h _ _ H) ?ho ?hcd ?hbind ?hloc ?hb ?c1 ?c2 ?c3 ?c4 ?_
  k_extra "nt_body"
  intro dp un outer A₀ base h₀ L s Q E B F X N S T hd hu hE hret
  k_extra "nt_go"
  exact hret _ _ _ _ rfl (by k_asm) (arr_news (by k_asm) (by k_extra "nt_arr")) (arr_sep (by k_asm) (by k_extra "nt_arr"))
theorem isf_tab (h1 : (x, instObj 408 dx) ∈ news) (h2 : (dx, dictOf es n) ∈ news) : CodeK w loose mean mg mb gd 714 [.ref x] 1 20 news (fun K => K (.bool false) news) := by
  refine' code_of_body (binds := [(Str.ofString "value", .ref x)]) (fun _ _ h H => h _ _ H) ?ho ?hcd ?hbind ?hloc ?hb ?c1 ?c2 ?c3 ?c4 ?_
  k_extra "nt_body"
  intro dp un outer A₀ base h₀ L s Q E B F X N S T hd hu hE hret
  k_extra "nt_go"
  exact hret _ _ _ _ rfl (by k_asm) (arr_news (by k_asm) (by k_extra "nt_arr")) (arr_sep (by k_asm) (by k_extra "nt_arr"))
theorem isf_none  : CodeK w loose mean mg mb gd 714 [.none] 1 20 news (fun K => K (.bool false) news) := by
  refine' code_of_body (binds := [(Str.ofString "value", .none)]) (fun _ _ h H => h _ _ H) ?ho ?hcd ?hbind ?hloc ?hb ?c1 ?c2 ?c3 ?c4 ?_
  k_extra "nt_body"
  intro dp un outer A₀ base h₀ L s Q E B F X N S T hd hu hE hret
  k_extra "nt_go"
  exact hret _ _ _ _ rfl (by k_asm) (arr_news (by k_asm) (by k_extra "nt_arr")) (arr_sep (by k_asm) (by k_extra "nt_arr"))
theorem isf_int  : CodeK w loose mean mg mb gd 714 [.int N0 t] 1 20 news (fun K => K (.bool false) news) := by
  refine' code_of_body (binds := [(Str.ofString "value", .int N0 t)]) (fun _ _ h H => h _ _ H) ?ho ?hcd ?hbind ?hloc ?hb ?c1 ?c2 ?c3 ?c4 ?_
  k_extra "nt_body"
  intro dp un outer A₀ base h₀ L s Q E B F X N S T hd hu hE hret
  k_extra "nt_go"
  exact hret _ _ _ _ rfl (by k_asm) (arr_news (by k_asm) (by k_extra "nt_arr")) (arr_sep (by k_asm) (by k_extra "nt_arr"))
theorem isf_byt  : CodeK w loose mean mg mb gd 714 [.bytes [120].toArray t] 1 20 news (fun K => K (.bool false) news) := by
  refine' code_of_body (binds := [(Str.ofString "value", .bytes [120].toArray t)]) (fun _ _ h H => h _ _ H) ?ho ?hcd ?hbind ?hloc ?hb ?c1 ?c2 ?c3 ?c4 ?_
  k_extra "nt_body"
  intro dp un outer A₀ base h₀ L s Q E B F X N S T hd hu hE hret
  k_extra "nt_go"
  exact hret _ _ _ _ rfl (by k_asm) (arr_news (by k_asm) (by k_extra "nt_arr")) (arr_sep (by k_asm) (by k_extra "nt_arr"))
theorem isf_boo  : CodeK w loose mean mg mb gd 714 [.bool true] 1 20 news (fun K => K (.bool false) news) := by
  refine' code_of_body (binds := [(Str.ofString "value", .bool true)]) (fun _ _ h H => h _ _ H) ?ho ?hcd ?hbind ?hloc ?hb ?c1 ?c2 ?c3 ?c4 ?_
  k_extra "nt_body"
  intro dp un outer A₀ base h₀ L s Q E B F X N S T hd hu hE hret
  k_extra "nt_go"
  exact hret _ _ _ _ rfl (by k_asm) (arr_news (by k_asm) (by k_extra "nt_arr")) (arr_sep (by k_asm) (by k_extra "nt_arr"))
theorem env_lua (h1 : (x, instObj 456 dx) ∈ news) (h2 : (dx, dictOf es n) ∈ news) (e1 : gets "env" es e) (he : handedIn e = true) : CodeK w loose mean mg mb gd 742 [.ref x] 3 40 news (fun K => K e news) := by
  refine' code_of_body (binds := [(Str.ofString "value", .ref x)]) (fun _ _ h H => h _ _ H) ?ho ?hcd ?hbind ?hloc ?hb ?c1 ?c2 ?c3 ?c4 ?_
  k_extra "nt_body"
  intro dp un outer A₀ base h₀ L s Q E B F X N S T hd hu hE hret
  k_with "call ref" => ((open YesNtEnv in skip); k_here; (with_reducible show wpAny _ _ (call (Value.ref 714) _) _ _ _); k_dflt (refine' code_use (isf_lua ?ca0 ?ca1) ?kB ?kF ?kX ?kN ?kS ?kP ?kT ?kk ?kd ?ku ?_; k_extra "nt_use0"; (case ca0 => first | with_reducible assumption | k_extra "nt_mem"); (case ca1 => first | with_reducible assumption | k_extra "nt_mem"); k_whole); intro  h' tk' F' N' S'; (try k_sweep))
  k_extra "nt_go"
  exact hret _ _ _ _ rfl (by k_asm) (arr_news (by k_asm) (by k_extra "nt_arr")) (arr_sep (by k_asm) (by k_extra "nt_arr"))
theorem env_py (h1 : (x, instObj 504 dx) ∈ news) (h2 : (dx, dictOf es n) ∈ news) (e1 : gets "env" es e) (he : handedIn e = true) : CodeK w loose mean mg mb gd 742 [.ref x] 3 40 news (fun K => K e news) := by
  refine' code_of_body (binds := [(Str.ofString "value", .ref x)]) (fun _ _ h H => h _ _ H) ?ho ?hcd ?hbind ?hloc ?hb ?c1 ?c2 ?c3 ?c4 ?_
  k_extra "nt_body"
  intro dp un outer A₀ base h₀ L s Q E B F X N S T hd hu hE hret
  k_with "call ref" => ((open YesNtEnv in skip); k_here; (with_reducible show wpAny _ _ (call (Value.ref 714) _) _ _ _); k_dflt (refine' code_use (isf_py ?ca0 ?ca1) ?kB ?kF ?kX ?kN ?kS ?kP ?kT ?kk ?kd ?ku ?_; k_extra "nt_use0"; (case ca0 => first | with_reducible assumption | k_extra "nt_mem"); (case ca1 => first | with_reducible assumption | k_extra "nt_mem"); k_whole); intro  h' tk' F' N' S'; (try k_sweep))
  k_extra "nt_go"
  exact hret _ _ _ _ rfl (by k_asm) (arr_news (by k_asm) (by k_extra "nt_arr")) (arr_sep (by k_asm) (by k_extra "nt_arr"))
theorem env_dat (h1 : (x, instObj 523 dx) ∈ news) (h2 : (dx, dictOf es n) ∈ news) (e1 : gets "env" es e) (he : handedIn e = true) : CodeK w loose mean mg mb gd 742 [.ref x] 3 40 news (fun K => K e news) := by
  refine' code_of_body (binds := [(Str.ofString "value", .ref x)]) (fun _ _ h H => h _ _ H) ?ho ?hcd ?hbind ?hloc ?hb ?c1 ?c2 ?c3 ?c4 ?_
  k_extra "nt_body"
  intro dp un outer A₀ base h₀ L s Q E B F X N S T hd hu hE hret
  k_with "call ref" => ((open YesNtEnv in skip); k_here; (with_reducible show wpAny _ _ (call (Value.ref 714) _) _ _ _); k_dflt (refine' code_use (isf_dat ?ca0 ?ca1) ?kB ?kF ?kX ?kN ?kS ?kP ?kT ?kk ?kd ?ku ?_; k_extra "nt_use0"; (case ca0 => first | with_reducible assumption | k_extra "nt_mem"); (case ca1 => first | with_reducible assumption | k_extra "nt_mem"); k_whole); intro  h' tk' F' N' S'; (try k_sweep))
  k_extra "nt_go"
  exact hret _ _ _ _ rfl (by k_asm) (arr_news (by k_asm) (by k_extra "nt_arr")) (arr_sep (by k_asm) (by k_extra "nt_arr"))
theorem env_thr (h1 : (x, instObj 677 dx) ∈ news) (h2 : (dx, dictOf es n) ∈ news) (e1 : gets "globals" es e) (he : handedIn e = true) : CodeK w loose mean mg mb gd 742 [.ref x] 3 40 news (fun K => K e news) := by
  refine' code_of_body (binds := [(Str.ofString "value", .ref x)]) (fun _ _ h H => h _ _ H) ?ho ?hcd ?hbind ?hloc ?hb ?c1 ?c2 ?c3 ?c4 ?_
  k_extra "nt_body"
  intro dp un outer A₀ base h₀ L s Q E B F X N S T hd hu hE hret
  k_with "call ref" => ((open YesNtEnv in skip); k_here; (with_reducible show wpAny _ _ (call (Value.ref 714) _) _ _ _); k_dflt (refine' code_use (isf_thr ?ca0 ?ca1) ?kB ?kF ?kX ?kN ?kS ?kP ?kT ?kk ?kd ?ku ?_; k_extra "nt_use0"; (case ca0 => first | with_reducible assumption | k_extra "nt_mem"); (case ca1 => first | with_reducible assumption | k_extra "nt_mem"); k_whole); intro  h' tk' F' N' S'; (try k_sweep))
  k_extra "nt_go"
  exact hret _ _ _ _ rfl (by k_asm) (arr_news (by k_asm) (by k_extra "nt_arr")) (arr_sep (by k_asm) (by k_extra "nt_arr"))
theorem env_tab (h1 : (x, instObj 408 dx) ∈ news) (h2 : (dx, dictOf es n) ∈ news)  : CodeK w loose mean mg mb gd 742 [.ref x] 3 40 news (fun K => K .none news) := by
  refine' code_of_body (binds := [(Str.ofString "value", .ref x)]) (fun _ _ h H => h _ _ H) ?ho ?hcd ?hbind ?hloc ?hb ?c1 ?c2 ?c3 ?c4 ?_
  k_extra "nt_body"
  intro dp un outer A₀ base h₀ L s Q E B F X N S T hd hu hE hret
  k_with "call ref" => ((open YesNtEnv in skip); k_here; (with_reducible show wpAny _ _ (call (Value.ref 714) _) _ _ _); k_dflt (refine' code_use (isf_tab ?ca0 ?ca1) ?kB ?kF ?kX ?kN ?kS ?kP ?kT ?kk ?kd ?ku ?_; k_extra "nt_use0"; (case ca0 => first | with_reducible assumption | k_extra "nt_mem"); (case ca1 => first | with_reducible assumption | k_extra "nt_mem"); k_whole); intro  h' tk' F' N' S'; (try k_sweep))
  k_extra "nt_go"
  exact hret _ _ _ _ rfl (by k_asm) (arr_news (by k_asm) (by k_extra "nt_arr")) (arr_sep (by k_asm) (by k_extra "nt_arr"))
theorem env_none   : CodeK w loose mean mg mb gd 742 [.none] 3 40 news (fun K => K .none news) := by
  refine' code_of_body (binds := [(Str.ofString "value", .none)]) (fun _ _ h H => h _ _ H) ?ho ?hcd ?hbind ?hloc ?hb ?c1 ?c2 ?c3 ?c4 ?_
  k_extra "nt_body"
  intro dp un outer A₀ base h₀ L s Q E B F X N S T hd hu hE hret
  k_with "call ref" => ((open YesNtEnv in skip); k_here; (with_reducible show wpAny _ _ (call (Value.ref 714) _) _ _ _); k_dflt (refine' code_use (isf_none ) ?kB ?kF ?kX ?kN ?kS ?kP ?kT ?kk ?kd ?ku ?_; k_extra "nt_use0";  k_whole); intro  h' tk' F' N' S'; (try k_sweep))
  k_extra "nt_go"
  exact hret _ _ _ _ rfl (by k_asm) (arr_news (by k_asm) (by k_extra "nt_arr")) (arr_sep (by k_asm) (by k_extra "nt_arr"))
theorem env_int   : CodeK w loose mean mg mb gd 742 [.int N0 t] 3 40 news (fun K => K .none news) := by
  refine' code_of_body (binds := [(Str.ofString "value", .int N0 t)]) (fun _ _ h H => h _ _ H) ?ho ?hcd ?hbind ?hloc ?hb ?c1 ?c2 ?c3 ?c4 ?_
  k_extra "nt_body"
  intro dp un outer A₀ base h₀ L s Q E B F X N S T hd hu hE hret
  k_with "call ref" => ((open YesNtEnv in skip); k_here; (with_reducible show wpAny _ _ (call (Value.ref 714) _) _ _ _); k_dflt (refine' code_use (isf_int ) ?kB ?kF ?kX ?kN ?kS ?kP ?kT ?kk ?kd ?ku ?_; k_extra "nt_use0";  k_whole); intro  h' tk' F' N' S'; (try k_sweep))
  k_extra "nt_go"
  exact hret _ _ _ _ rfl (by k_asm) (arr_news (by k_asm) (by k_extra "nt_arr")) (arr_sep (by k_asm) (by k_extra "nt_arr"))
theorem env_byt   : CodeK w loose mean mg mb gd 742 [.bytes [120].toArray t] 3 40 news (fun K => K .none news) := by
  refine' code_of_body (binds := [(Str.ofString "value", .bytes [120].toArray t)]) (fun _ _ h H => h _ _ H) ?ho ?hcd ?hbind ?hloc ?hb ?c1 ?c2 ?c3 ?c4 ?_
  k_extra "nt_body"
  intro dp un outer A₀ base h₀ L s Q E B F X N S T hd hu hE hret
  k_with "call ref" => ((open YesNtEnv in skip); k_here; (with_reducible show wpAny _ _ (call (Value.ref 714) _) _ _ _); k_dflt (refine' code_use (isf_byt ) ?kB ?kF ?kX ?kN ?kS ?kP ?kT ?kk ?kd ?ku ?_; k_extra "nt_use0";  k_whole); intro  h' tk' F' N' S'; (try k_sweep))
  k_extra "nt_go"
  exact hret _ _ _ _ rfl (by k_asm) (arr_news (by k_asm) (by k_extra "nt_arr")) (arr_sep (by k_asm) (by k_extra "nt_arr"))
theorem env_boo   : CodeK w loose mean mg mb gd 742 [.bool true] 3 40 news (fun K => K .none news) := by
  refine' code_of_body (binds := [(Str.ofString "value", .bool true)]) (fun _ _ h H => h _ _ H) ?ho ?hcd ?hbind ?hloc ?hb ?c1 ?c2 ?c3 ?c4 ?_
  k_extra "nt_body"
  intro dp un outer A₀ base h₀ L s Q E B F X N S T hd hu hE hret
  k_with "call ref" => ((open YesNtEnv in skip); k_here; (with_reducible show wpAny _ _ (call (Value.ref 714) _) _ _ _); k_dflt (refine' code_use (isf_boo ) ?kB ?kF ?kX ?kN ?kS ?kP ?kT ?kk ?kd ?ku ?_; k_extra "nt_use0";  k_whole); intro  h' tk' F' N' S'; (try k_sweep))
  k_extra "nt_go"
  exact hret _ _ _ _ rfl (by k_asm) (arr_news (by k_asm) (by k_extra "nt_arr")) (arr_sep (by k_asm) (by k_extra "nt_arr"))
theorem set_lua {z : Int} {p : Value} {u : Addr} (h1 : (x, instObj 456 dx) ∈ news) (P : Put dx (luaD w.params kt z p (.ref u) e) (luaD w.params kt z p (.ref u) v) news news') : CodeK w loose mean mg mb gd 749 [.ref x, v] 3 40 news (fun K => K (.bool true) news') := by
  refine' code_of_body (binds := [(Str.ofString "value", .ref x), (Str.ofString "env", v)]) (fun _ _ h H => h _ _ H) ?ho ?hcd ?hbind ?hloc ?hb ?c1 ?c2 ?c3 ?c4 ?_
  k_extra "nt_body"
  intro dp un outer A₀ base h₀ L s Q E B F X N S T hd hu hE hret
  have h2 := P.mem
  k_with "call ref" => ((open YesNtEnv in skip); k_here; (with_reducible show wpAny _ _ (call (Value.ref 714) _) _ _ _); k_dflt (refine' code_use (isf_lua ?ca0 ?ca1) ?kB ?kF ?kX ?kN ?kS ?kP ?kT ?kk ?kd ?ku ?_; k_extra "nt_use0"; (case ca0 => first | with_reducible assumption | k_extra "nt_mem"); (case ca1 => first | with_reducible assumption | k_extra "nt_mem"); k_whole); intro  h' tk' F' N' S'; (try k_sweep))
  k_extra "nt_go"
  exact hret _ _ _ _ rfl (by k_asm) (arr_news (by k_asm) (by k_extra "nt_arr")) (arr_sep (by k_asm) (by k_extra "nt_arr"))
theorem set_py {z : Int} {f b : Value} {u : Addr} (h1 : (x, instObj 504 dx) ∈ news) (P : Put dx (pyD w.params kt z f b (.ref u) e) (pyD w.params kt z f b (.ref u) v) news news') : CodeK w loose mean mg mb gd 749 [.ref x, v] 3 40 news (fun K => K (.bool true) news') := by
  refine' code_of_body (binds := [(Str.ofString "value", .ref x), (Str.ofString "env", v)]) (fun _ _ h H => h _ _ H) ?ho ?hcd ?hbind ?hloc ?hb ?c1 ?c2 ?c3 ?c4 ?_
  k_extra "nt_body"
  intro dp un outer A₀ base h₀ L s Q E B F X N S T hd hu hE hret
  have h2 := P.mem
  k_with "call ref" => ((open YesNtEnv in skip); k_here; (with_reducible show wpAny _ _ (call (Value.ref 714) _) _ _ _); k_dflt (refine' code_use (isf_py ?ca0 ?ca1) ?kB ?kF ?kX ?kN ?kS ?kP ?kT ?kk ?kd ?ku ?_; k_extra "nt_use0"; (case ca0 => first | with_reducible assumption | k_extra "nt_mem"); (case ca1 => first | with_reducible assumption | k_extra "nt_mem"); k_whole); intro  h' tk' F' N' S'; (try k_sweep))
  k_extra "nt_go"
  exact hret _ _ _ _ rfl (by k_asm) (arr_news (by k_asm) (by k_extra "nt_arr")) (arr_sep (by k_asm) (by k_extra "nt_arr"))
theorem set_dat {q m : Value} (h1 : (x, instObj 523 dx) ∈ news) (P : Put dx (datD w.params kt q m e) (datD w.params kt q m v) news news') : CodeK w loose mean mg mb gd 749 [.ref x, v] 3 40 news (fun K => K (.bool true) news') := by
  refine' code_of_body (binds := [(Str.ofString "value", .ref x), (Str.ofString "env", v)]) (fun _ _ h H => h _ _ H) ?ho ?hcd ?hbind ?hloc ?hb ?c1 ?c2 ?c3 ?c4 ?_
  k_extra "nt_body"
  intro dp un outer A₀ base h₀ L s Q E B F X N S T hd hu hE hret
  have h2 := P.mem
  k_with "call ref" => ((open YesNtEnv in skip); k_here; (with_reducible show wpAny _ _ (call (Value.ref 714) _) _ _ _); k_dflt (refine' code_use (isf_dat ?ca0 ?ca1) ?kB ?kF ?kX ?kN ?kS ?kP ?kT ?kk ?kd ?ku ?_; k_extra "nt_use0"; (case ca0 => first | with_reducible assumption | k_extra "nt_mem"); (case ca1 => first | with_reducible assumption | k_extra "nt_mem"); k_whole); intro  h' tk' F' N' S'; (try k_sweep))
  k_extra "nt_go"
  exact hret _ _ _ _ rfl (by k_asm) (arr_news (by k_asm) (by k_extra "nt_arr")) (arr_sep (by k_asm) (by k_extra "nt_arr"))
theorem set_thr {num top : Value} {stk frs up : Addr} (h1 : (x, instObj 677 dx) ∈ news) (P : Put dx (thrE w.params kt num stk top frs up e) (thrE w.params kt num stk top frs up v) news news') : CodeK w loose mean mg mb gd 749 [.ref x, v] 3 40 news (fun K => K (.bool true) news') := by
  refine' code_of_body (binds := [(Str.ofString "value", .ref x), (Str.ofString "env", v)]) (fun _ _ h H => h _ _ H) ?ho ?hcd ?hbind ?hloc ?hb ?c1 ?c2 ?c3 ?c4 ?_
  k_extra "nt_body"
  intro dp un outer A₀ base h₀ L s Q E B F X N S T hd hu hE hret
  have h2 := P.mem
  k_with "call ref" => ((open YesNtEnv in skip); k_here; (with_reducible show wpAny _ _ (call (Value.ref 714) _) _ _ _); k_dflt (refine' code_use (isf_thr ?ca0 ?ca1) ?kB ?kF ?kX ?kN ?kS ?kP ?kT ?kk ?kd ?ku ?_; k_extra "nt_use0"; (case ca0 => first | with_reducible assumption | k_extra "nt_mem"); (case ca1 => first | with_reducible assumption | k_extra "nt_mem"); k_whole); intro  h' tk' F' N' S'; (try k_sweep))
  k_extra "nt_go"
  exact hret _ _ _ _ rfl (by k_asm) (arr_news (by k_asm) (by k_extra "nt_arr")) (arr_sep (by k_asm) (by k_extra "nt_arr"))
theorem set_tab (h1 : (x, instObj 408 dx) ∈ news) (h2 : (dx, dictOf es n) ∈ news) : CodeK w loose mean mg mb gd 749 [.ref x, v] 3 40 news (fun K => K (.bool false) news) := by
  refine' code_of_body (binds := [(Str.ofString "value", .ref x), (Str.ofString "env", v)]) (fun _ _ h H => h _ _ H) ?ho ?hcd ?hbind ?hloc ?hb ?c1 ?c2 ?c3 ?c4 ?_
  k_extra "nt_body"
  intro dp un outer A₀ base h₀ L s Q E B F X N S T hd hu hE hret
  k_with "call ref" => ((open YesNtEnv in skip); k_here; (with_reducible show wpAny _ _ (call (Value.ref 714) _) _ _ _); k_dflt (refine' code_use (isf_tab ?ca0 ?ca1) ?kB ?kF ?kX ?kN ?kS ?kP ?kT ?kk ?kd ?ku ?_; k_extra "nt_use0"; (case ca0 => first | with_reducible assumption | k_extra "nt_mem"); (case ca1 => first | with_reducible assumption | k_extra "nt_mem"); k_whole); intro  h' tk' F' N' S'; (try k_sweep))
  k_extra "nt_go"
  exact hret _ _ _ _ rfl (by k_asm) (arr_news (by k_asm) (by k_extra "nt_arr")) (arr_sep (by k_asm) (by k_extra "nt_arr"))
theorem set_none  : CodeK w loose mean mg mb gd 749 [.none, v] 3 40 news (fun K => K (.bool false) news) := by
  refine' code_of_body (binds := [(Str.ofString "value", .none), (Str.ofString "env", v)]) (fun _ _ h H => h _ _ H) ?ho ?hcd ?hbind ?hloc ?hb ?c1 ?c2 ?c3 ?c4 ?_
  k_extra "nt_body"
  intro dp un outer A₀ base h₀ L s Q E B F X N S T hd hu hE hret
  k_with "call ref" => ((open YesNtEnv in skip); k_here; (with_reducible show wpAny _ _ (call (Value.ref 714) _) _ _ _); k_dflt (refine' code_use (isf_none ) ?kB ?kF ?kX ?kN ?kS ?kP ?kT ?kk ?kd ?ku ?_; k_extra "nt_use0";  k_whole); intro  h' tk' F' N' S'; (try k_sweep))
  k_extra "nt_go"
  exact hret _ _ _ _ rfl (by k_asm) (arr_news (by k_asm) (by k_extra "nt_arr")) (arr_sep (by k_asm) (by k_extra "nt_arr"))
theorem set_int  : CodeK w loose mean mg mb gd 749 [.int N0 t, v] 3 40 news (fun K => K (.bool false) news) := by
  refine' code_of_body (binds := [(Str.ofString "value", .int N0 t), (Str.ofString "env", v)]) (fun _ _ h H => h _ _ H) ?ho ?hcd ?hbind ?hloc ?hb ?c1 ?c2 ?c3 ?c4 ?_
  k_extra "nt_body"
  intro dp un outer A₀ base h₀ L s Q E B F X N S T hd hu hE hret
  k_with "call ref" => ((open YesNtEnv in skip); k_here; (with_reducible show wpAny _ _ (call (Value.ref 714) _) _ _ _); k_dflt (refine' code_use (isf_int ) ?kB ?kF ?kX ?kN ?kS ?kP ?kT ?kk ?kd ?ku ?_; k_extra "nt_use0";  k_whole); intro  h' tk' F' N' S'; (try k_sweep))
  k_extra "nt_go"
  exact hret _ _ _ _ rfl (by k_asm) (arr_news (by k_asm) (by k_extra "nt_arr")) (arr_sep (by k_asm) (by k_extra "nt_arr"))
theorem set_byt  : CodeK w loose mean mg mb gd 749 [.bytes [120].toArray t, v] 3 40 news (fun K => K (.bool false) news) := by
  refine' code_of_body (binds := [(Str.ofString "value", .bytes [120].toArray t), (Str.ofString "env", v)]) (fun _ _ h H => h _ _ H) ?ho ?hcd ?hbind ?hloc ?hb ?c1 ?c2 ?c3 ?c4 ?_
  k_extra "nt_body"
  intro dp un outer A₀ base h₀ L s Q E B F X N S T hd hu hE hret
  k_with "call ref" => ((open YesNtEnv in skip); k_here; (with_reducible show wpAny _ _ (call (Value.ref 714) _) _ _ _); k_dflt (refine' code_use (isf_byt ) ?kB ?kF ?kX ?kN ?kS ?kP ?kT ?kk ?kd ?ku ?_; k_extra "nt_use0";  k_whole); intro  h' tk' F' N' S'; (try k_sweep))
  k_extra "nt_go"
  exact hret _ _ _ _ rfl (by k_asm) (arr_news (by k_asm) (by k_extra "nt_arr")) (arr_sep (by k_asm) (by k_extra "nt_arr"))
theorem set_boo  : CodeK w loose mean mg mb gd 749 [.bool true, v] 3 40 news (fun K => K (.bool false) news) := by
  refine' code_of_body (binds := [(Str.ofString "value", .bool true), (Str.ofString "env", v)]) (fun _ _ h H => h _ _ H) ?ho ?hcd ?hbind ?hloc ?hb ?c1 ?c2 ?c3 ?c4 ?_
  k_extra "nt_body"
  intro dp un outer A₀ base h₀ L s Q E B F X N S T hd hu hE hret
  k_with "call ref" => ((open YesNtEnv in skip); k_here; (with_reducible show wpAny _ _ (call (Value.ref 714) _) _ _ _); k_dflt (refine' code_use (isf_boo ) ?kB ?kF ?kX ?kN ?kS ?kP ?kT ?kk ?kd ?ku ?_; k_extra "nt_use0";  k_whole); intro  h' tk' F' N' S'; (try k_sweep))
  k_extra "nt_go"
  exact hret _ _ _ _ rfl (by k_asm) (arr_news (by k_asm) (by k_extra "nt_arr")) (arr_sep (by k_asm) (by k_extra "nt_arr"))
theorem text_tab (h1 : (x, instObj 408 dx) ∈ news) (h2 : (dx, dictOf es n) ∈ news) (e1 : gets "number" es (.int N0 t)) (g0 : 0 ≤ N0) (g1 : N0 < 10 ^ 12) : CodeK w loose mean mg mb gd 721 [.ref x] 4 80 news (fun K => ∀ t, K (.bytes ([116, 97, 98, 108, 101, 58, 32, 48, 120] ++ hexB N0 8).toArray t) news) := by
  refine' code_of_body (binds := [(Str.ofString "value", .ref x)]) (fun _ _ h H t => h _ _ (H t)) ?ho ?hcd ?hbind ?hloc ?hb ?c1 ?c2 ?c3 ?c4 ?_
  k_extra "nt_body"
  intro dp un outer A₀ base h₀ L s Q E B F X N S T hd hu hE hret
  k_with "call ref" => ((open YesNtEnv in skip); k_here; (with_reducible show wpAny _ _ (call (Value.ref 714) _) _ _ _); k_dflt (refine' code_use (isf_tab ?ca0 ?ca1) ?kB ?kF ?kX ?kN ?kS ?kP ?kT ?kk ?kd ?ku ?_; k_extra "nt_use0"; (case ca0 => first | with_reducible assumption | k_extra "nt_mem"); (case ca1 => first | with_reducible assumption | k_extra "nt_mem"); k_whole); intro  h' tk' F' N' S'; (try k_sweep))
  k_with "call ref" => ((open YesNtEnv in skip); k_here; (with_reducible show wpAny _ _ (call (Value.ref 728) _) _ _ _); k_dflt (refine' code_use (hex_k ?ca0 ?ca1 ?ca2) ?kB ?kF ?kX ?kN ?kS ?kP ?kT ?kk ?kd ?ku ?_; k_extra "nt_use0"; (case ca0 => assumption); (case ca1 => assumption); (case ca2 => decide); k_whole); intro t9 h' tk' F' N' S'; (try k_sweep))
  k_extra "nt_cat"
  k_extra "nt_go"
  exact hret _ _ _ _ _ rfl (by k_asm) (arr_news (by k_asm) (by k_extra "nt_arr")) (arr_sep (by k_asm) (by k_extra "nt_arr"))
theorem text_py (h1 : (x, instObj 504 dx) ∈ news) (h2 : (dx, dictOf es n) ∈ news) (e1 : gets "number" es (.int N0 t)) (g0 : 0 ≤ N0) (g1 : N0 < 10 ^ 12) : CodeK w loose mean mg mb gd 721 [.ref x] 4 80 news (fun K => ∀ t, K (.bytes ([102, 117, 110, 99, 116, 105, 111, 110, 58, 32, 48, 120] ++ hexB N0 8).toArray t) news) := by
  refine' code_of_body (binds := [(Str.ofString "value", .ref x)]) (fun _ _ h H t => h _ _ (H t)) ?ho ?hcd ?hbind ?hloc ?hb ?c1 ?c2 ?c3 ?c4 ?_
  k_extra "nt_body"
  intro dp un outer A₀ base h₀ L s Q E B F X N S T hd hu hE hret
  k_with "call ref" => ((open YesNtEnv in skip); k_here; (with_reducible show wpAny _ _ (call (Value.ref 714) _) _ _ _); k_dflt (refine' code_use (isf_py ?ca0 ?ca1) ?kB ?kF ?kX ?kN ?kS ?kP ?kT ?kk ?kd ?ku ?_; k_extra "nt_use0"; (case ca0 => first | with_reducible assumption | k_extra "nt_mem"); (case ca1 => first | with_reducible assumption | k_extra "nt_mem"); k_whole); intro  h' tk' F' N' S'; (try k_sweep))
  k_with "call ref" => ((open YesNtEnv in skip); k_here; (with_reducible show wpAny _ _ (call (Value.ref 728) _) _ _ _); k_dflt (refine' code_use (hex_k ?ca0 ?ca1 ?ca2) ?kB ?kF ?kX ?kN ?kS ?kP ?kT ?kk ?kd ?ku ?_; k_extra "nt_use0"; (case ca0 => assumption); (case ca1 => assumption); (case ca2 => decide); k_whole); intro t9 h' tk' F' N' S'; (try k_sweep))
  k_extra "nt_cat"
  k_extra "nt_go"
  exact hret _ _ _ _ _ rfl (by k_asm) (arr_news (by k_asm) (by k_extra "nt_arr")) (arr_sep (by k_asm) (by k_extra "nt_arr"))
theorem text_thr (h1 : (x, instObj 677 dx) ∈ news) (h2 : (dx, dictOf es n) ∈ news) (e1 : gets "number" es (.int N0 t)) (g0 : 0 ≤ N0) (g1 : N0 < 10 ^ 12) : CodeK w loose mean mg mb gd 721 [.ref x] 4 80 news (fun K => ∀ t, K (.bytes ([116, 104, 114, 101, 97, 100, 58, 32, 48, 120] ++ hexB N0 8).toArray t) news) := by
  refine' code_of_body (binds := [(Str.ofString "value", .ref x)]) (fun _ _ h H t => h _ _ (H t)) ?ho ?hcd ?hbind ?hloc ?hb ?c1 ?c2 ?c3 ?c4 ?_
  k_extra "nt_body"
  intro dp un outer A₀ base h₀ L s Q E B F X N S T hd hu hE hret
  k_with "call ref" => ((open YesNtEnv in skip); k_here; (with_reducible show wpAny _ _ (call (Value.ref 714) _) _ _ _); k_dflt (refine' code_use (isf_thr ?ca0 ?ca1) ?kB ?kF ?kX ?kN ?kS ?kP ?kT ?kk ?kd ?ku ?_; k_extra "nt_use0"; (case ca0 => first | with_reducible assumption | k_extra "nt_mem"); (case ca1 => first | with_reducible assumption | k_extra "nt_mem"); k_whole); intro  h' tk' F' N' S'; (try k_sweep))
  k_with "call ref" => ((open YesNtEnv in skip); k_here; (with_reducible show wpAny _ _ (call (Value.ref 728) _) _ _ _); k_dflt (refine' code_use (hex_k ?ca0 ?ca1 ?ca2) ?kB ?kF ?kX ?kN ?kS ?kP ?kT ?kk ?kd ?ku ?_; k_extra "nt_use0"; (case ca0 => assumption); (case ca1 => assumption); (case ca2 => decide); k_whole); intro t9 h' tk' F' N' S'; (try k_sweep))
  k_extra "nt_cat"
  k_extra "nt_go"
  exact hret _ _ _ _ _ rfl (by k_asm) (arr_news (by k_asm) (by k_extra "nt_arr")) (arr_sep (by k_asm) (by k_extra "nt_arr"))
theorem text_dat (h1 : (x, instObj 523 dx) ∈ news) (h2 : (dx, dictOf es n) ∈ news) (e1 : gets "number" es (.int N0 t)) (g0 : 0 ≤ N0) (g1 : N0 < 10 ^ 12) : CodeK w loose mean mg mb gd 721 [.ref x] 4 80 news (fun K => ∀ t, K (.bytes ([117, 115, 101, 114, 100, 97, 116, 97, 58, 32, 48, 120] ++ hexB N0 8).toArray t) news) := by
  refine' code_of_body (binds := [(Str.ofString "value", .ref x)]) (fun _ _ h H t => h _ _ (H t)) ?ho ?hcd ?hbind ?hloc ?hb ?c1 ?c2 ?c3 ?c4 ?_
  k_extra "nt_body"
  intro dp un outer A₀ base h₀ L s Q E B F X N S T hd hu hE hret
  k_with "call ref" => ((open YesNtEnv in skip); k_here; (with_reducible show wpAny _ _ (call (Value.ref 714) _) _ _ _); k_dflt (refine' code_use (isf_dat ?ca0 ?ca1) ?kB ?kF ?kX ?kN ?kS ?kP ?kT ?kk ?kd ?ku ?_; k_extra "nt_use0"; (case ca0 => first | with_reducible assumption | k_extra "nt_mem"); (case ca1 => first | with_reducible assumption | k_extra "nt_mem"); k_whole); intro  h' tk' F' N' S'; (try k_sweep))
  k_with "call ref" => ((open YesNtEnv in skip); k_here; (with_reducible show wpAny _ _ (call (Value.ref 728) _) _ _ _); k_dflt (refine' code_use (hex_k ?ca0 ?ca1 ?ca2) ?kB ?kF ?kX ?kN ?kS ?kP ?kT ?kk ?kd ?ku ?_; k_extra "nt_use0"; (case ca0 => assumption); (case ca1 => assumption); (case ca2 => decide); k_whole); intro t9 h' tk' F' N' S'; (try k_sweep))
  k_extra "nt_cat"
  k_extra "nt_go"
  exact hret _ _ _ _ _ rfl (by k_asm) (arr_news (by k_asm) (by k_extra "nt_arr")) (arr_sep (by k_asm) (by k_extra "nt_arr"))
end
end NtMine

end
-- NtIterT
section
open PySem PySem.W PySem.Calls PyProof.Rows PyProof.V PySem.Spec
set_option Elab.async false
namespace NtMine
set_option maxRecDepth 100000
section
variable {prog : Program} {w : World} {A : Around} {E : Value → Shared → Prop} {s : Shared} {env : Env} {h₀ : Heap} {x : Str} {body : List Stmt} {Q : Flow → Shared → Prop}
theorem nt_iter_tuple {l : Addr} {vs : List Value} {nn : Nat} {m₀ : Str → Option Value} {news : Led} (J : Nat → (Str → Option Value) → Led → Prop)
    (hh : A.handled = none) (hl : (l, tupOf vs nn) ∈ news) (F : Fr h₀ env.locals s.heap m₀) (N : News h₀ env.locals s.heap news) (hj : J 0 m₀ news) (hJl : ∀ i m nx, J i m nx → (l, tupOf vs nn) ∈ nx)
    (turn : ∀ i v m₁ news₁ h tk I o, vs[i]? = some v → o.cls = .type "tuple_iterator" → OwnOff [(I, o)] (news₁.map (·.1)) → J i m₁ news₁ → Fr h₀ env.locals h (fun y => if y = x then some v else m₁ y) → News h₀ env.locals h ((I, o) :: news₁) →
      wpAny (model prog w) A (execs body env) (InvPostG h₀ env.locals (J (i + 1)) [(I, o)] { s with heap := h, toks := tk } Q) E { s with heap := h, toks := tk })
    (done : ∀ m₁ news₁ h tk, J vs.length m₁ news₁ → Fr h₀ env.locals h m₁ → News h₀ env.locals h news₁ → Q .next { s with heap := h, toks := tk }) :
    wpAny (model prog w) A (pyIter (.ref l)) (fun it s₂ => LoopAtV prog w A h₀ env x body Q E it s₂) E s := by
  have hol : s.heap.get? l = some (tupOf vs nn) := (N _ hl).1
  have hls : s.heap.IsTuple l vs.toArray := ⟨_, hol, rfl, nn, rfl⟩
  have hne : l ≠ s.heap.objs.size := Nat.ne_of_lt (Heap.lt_size hol)
  refine wpAny_pyIter_tuple hls ?_
  have W := Walks.tuple (prog := prog) (w := w) hh s.heap.objs.size l hne vs.toArray
  have hlen : vs.toArray.size = vs.length := List.size_toArray ..
  rw [hlen] at W
  refine ⟨_, _, _, vs.length, _, _, m₀, news, J, rfl, W, ?_, ?_, ?_, ⟨⟨_, Heap.get?_push_size _ rfl, rfl, rfl⟩, hls.at fun o e => Heap.get?_push_of_some _ e⟩, F.push _, (fun p hp => ⟨Heap.get?_push_of_some _ (N p hp).1, (N p hp).2⟩), hj, ?_, ?_⟩
  · intro hm
    rcases List.mem_cons.mp hm with e | hm
    · exact absurd F.ns.lt (e ▸ Nat.lt_irrefl _)
    · exact (N _ hl).2.1 ((List.mem_singleton.mp hm).symm)
  · intro b hb
    rw [List.mem_singleton.mp hb]
    exact next_is_new F
  · intro p hp hI
    exact absurd (Heap.lt_size (N p hp).1) ((List.mem_singleton.mp hI) ▸ Nat.lt_irrefl _)
  · rintro i v m₁ news₁ s₁ own ⟨hh', tk', rfl⟩ hin hP hJ hoff hown hget hfp hst F₁ N₁
    have hI0 : h₀.get? s.heap.objs.size = none := next_is_new F
    obtain ⟨⟨oI, hoI, hcI, _⟩, _⟩ := id hst
    have hIown : (s.heap.objs.size, oI) ∈ own := hfp _ (List.mem_cons.mpr (.inl rfl)) hI0 _ hoI
    have hl₁ : (l, tupOf vs nn) ∈ news₁ := hJl _ _ _ hJ
    have hlo : hh'.get? l = some (tupOf vs nn) := (N₁ _ (List.mem_append.mpr (.inr hl₁))).1
    have hsep : OwnOff [(s.heap.objs.size, oI)] (news₁.map (·.1)) := by
      intro p hp b hb e
      obtain ⟨q, hq, rfl⟩ := List.mem_map.mp hb
      rw [List.mem_singleton.mp hp] at e
      exact hoff q hq (List.mem_singleton.mpr e.symm)
    have hv : vs[i]? = some v := by simpa using hP
    have N₂ : News h₀ env.locals hh' ((s.heap.objs.size, oI) :: news₁) := fun p hp => N₁ p ((List.mem_cons.mp hp).elim (fun h => List.mem_append.mpr (.inl (h ▸ hIown))) fun h => List.mem_append.mpr (.inr h))
    refine wpAny_mono (turn i v m₁ news₁ hh' tk' _ oI hv hcI hsep hJ F₁ N₂) (fun f s₂ p => ?_) fun _ _ e => e
    have fin : InvEndG h₀ env.locals (J (i + 1)) [(s.heap.objs.size, oI)] { s with heap := hh', toks := tk' } s₂ → LoopStepU h₀ env.locals [s.heap.objs.size] own (J (i + 1)) { s with heap := hh', toks := tk' } .next s₂ := by
      rintro ⟨h', tk, m', news', nx, e, F', N', hn, ho, ha, hm⟩
      refine ⟨rfl, h', tk, m', nx, e, F', fun p hp => ?_, fun p hp hq => ?_, hm⟩
      · rcases List.mem_append.mp hp with h | h
        · rcases List.mem_cons.mp (hown p h) with h2 | h2
          · have h3 : hh'.get? p.1 = some p.2 := hget p h
            rw [h2, hoI] at h3
            have h4 : p = (s.heap.objs.size, oI) := Prod.ext h2 (Option.some.inj h3).symm
            exact N' p (ho p (h4 ▸ .head _))
          · have h1 : p.1 = l := List.mem_singleton.mp h2
            have h3 : hh'.get? p.1 = some p.2 := hget p h
            rw [h1, hlo] at h3
            have h4 : p = (l, tupOf vs nn) := Prod.ext h1 (Option.some.inj h3).symm
            rw [h4]
            exact N' _ (hn _ (hJl _ _ _ hm))
        · exact N' p (hn p h)
      · exact ha _ (.head _) p.1 (List.mem_map.mpr ⟨p, hp, rfl⟩) (List.mem_singleton.mp hq).symm
    cases f with
    | ret v => exact .ret p
    | brk => exact .brk p
    | next => exact .next (fin p)
    | cont => exact .cont (fin p)
  · rintro h' tk m' news' F' N' _ hJ
    exact done m' news' h' tk hJ F' N'

theorem off_sep {I : Addr} {o : Obj} {l : Led} (S : Sep ((I, o) :: l)) : OwnOff [(I, o)] (l.map (·.1)) := fun p hp b hb e => by
  obtain ⟨q, hq, rfl⟩ := List.mem_map.mp hb
  rw [List.mem_singleton.mp hp] at e
  exact S.1 q hq e.symm
theorem sep_off {I : Addr} {o : Obj} {l : Led} (S : Sep l) (h : OwnOff [(I, o)] (l.map (·.1))) : Sep ((I, o) :: l) := ⟨fun q hq e => h _ (.head _) q.1 (List.mem_map_of_mem hq) e.symm, S⟩
noncomputable def PostU (h₀ : Heap) (L : Addr) (J : (Str → Option Value) → Led → Prop) (own : Led) (s₁ : Shared) (f : Flow) (s₂ : Shared) : Prop := f = .next ∧ InvEndG h₀ L J own s₁ s₂
/-- a for over a tuple whose target is a tuple; its turns end by themselves -/
theorem nt_iter_tupleT {l : Addr} {vs : List Value} {nn : Nat} {m₀ : Str → Option Value} {news : Led} {target : PySem.Expr} (J : Nat → (Str → Option Value) → Led → Prop)
    (hh : A.handled = none) (hl : (l, tupOf vs nn) ∈ news) (F : Fr h₀ env.locals s.heap m₀) (N : News h₀ env.locals s.heap news) (hj : J 0 m₀ news) (hJl : ∀ i m nx, J i m nx → (l, tupOf vs nn) ∈ nx)
    (turn : ∀ i v m₁ news₁ (s₁ : Shared) I o, vs[i]? = some v → OwnOff [(I, o)] (news₁.map (·.1)) → J i m₁ news₁ → Fr h₀ env.locals s₁.heap m₁ → News h₀ env.locals s₁.heap ((I, o) :: news₁) →
      wpAny (model prog w) A (assign target env v) (fun _ s₃ => wpAny (model prog w) A (execs body env) (PostU h₀ env.locals (J (i + 1)) [(I, o)] s₁) E s₃) E s₁)
    (done : ∀ m₁ news₁ h tk, J vs.length m₁ news₁ → Fr h₀ env.locals h m₁ → News h₀ env.locals h news₁ → Q .next { s with heap := h, toks := tk }) :
    wpAny (model prog w) A (pyIter (.ref l)) (fun it s₂ => LoopAtT prog w A h₀ env target body Q E it s₂) E s := by
  have hol : s.heap.get? l = some (tupOf vs nn) := (N _ hl).1
  have hls : s.heap.IsTuple l vs.toArray := ⟨_, hol, rfl, nn, rfl⟩
  have hne : l ≠ s.heap.objs.size := Nat.ne_of_lt (Heap.lt_size hol)
  refine wpAny_pyIter_tuple hls ?_
  have W := Walks.tuple (prog := prog) (w := w) hh s.heap.objs.size l hne vs.toArray
  have hlen : vs.toArray.size = vs.length := List.size_toArray ..
  rw [hlen] at W
  refine ⟨_, _, _, vs.length, _, _, m₀, news, J, rfl, W, ?_, ?_, ?_, ⟨⟨_, Heap.get?_push_size _ rfl, rfl, rfl⟩, hls.at fun o e => Heap.get?_push_of_some _ e⟩, F.push _, (fun p hp => ⟨Heap.get?_push_of_some _ (N p hp).1, (N p hp).2⟩), (fun i s' v Q' st q => letGo_tupleiter st.1 q), hj, ?_, ?_⟩
  · intro hm
    rcases List.mem_cons.mp hm with e | hm
    · exact absurd F.ns.lt (e ▸ Nat.lt_irrefl _)
    · exact (N _ hl).2.1 ((List.mem_singleton.mp hm).symm)
  · intro b hb
    rw [List.mem_singleton.mp hb]
    exact next_is_new F
  · intro p hp hI
    exact absurd (Heap.lt_size (N p hp).1) ((List.mem_singleton.mp hI) ▸ Nat.lt_irrefl _)
  · rintro i v m₁ news₁ s₁ own hin hP hJ hoff hown hget hfp hst F₁ N₁
    have hI0 : h₀.get? s.heap.objs.size = none := next_is_new F
    obtain ⟨⟨oI, hoI, hcI, _⟩, _⟩ := id hst
    have hIown : (s.heap.objs.size, oI) ∈ own := hfp _ (List.mem_cons.mpr (.inl rfl)) hI0 _ hoI
    have hl₁ : (l, tupOf vs nn) ∈ news₁ := hJl _ _ _ hJ
    have hlo : s₁.heap.get? l = some (tupOf vs nn) := (N₁ _ (List.mem_append.mpr (.inr hl₁))).1
    have hsep : OwnOff [(s.heap.objs.size, oI)] (news₁.map (·.1)) := by
      intro p hp b hb e
      obtain ⟨q, hq, rfl⟩ := List.mem_map.mp hb
      rw [List.mem_singleton.mp hp] at e
      exact hoff q hq (List.mem_singleton.mpr e.symm)
    have hv : vs[i]? = some v := by simpa using hP
    have N₂ : News h₀ env.locals s₁.heap ((s.heap.objs.size, oI) :: news₁) := fun p hp => N₁ p ((List.mem_cons.mp hp).elim (fun h => List.mem_append.mpr (.inl (h ▸ hIown))) fun h => List.mem_append.mpr (.inr h))
    refine wpAny_mono (turn i v m₁ news₁ s₁ _ oI hv hsep hJ F₁ N₂) (fun _ s₃ p => wpAny_mono p (fun f s₂ p => ?_) fun _ _ e => e) fun _ _ e => e
    obtain ⟨rfl, h', tk, m', news', nx, e, F', N', hn, ho, ha, hm⟩ := p
    refine ⟨rfl, h', tk, m', nx, e, F', fun p hp => ?_, fun p hp hq => ?_, hm⟩
    · rcases List.mem_append.mp hp with h | h
      · rcases List.mem_cons.mp (hown p h) with h2 | h2
        · have h3 : s₁.heap.get? p.1 = some p.2 := hget p h
          rw [h2, hoI] at h3
          have h4 : p = (s.heap.objs.size, oI) := Prod.ext h2 (Option.some.inj h3).symm
          exact N' p (ho p (h4 ▸ .head _))
        · have h1 : p.1 = l := List.mem_singleton.mp h2
          have h3 : s₁.heap.get? p.1 = some p.2 := hget p h
          rw [h1, hlo] at h3
          have h4 : p = (l, tupOf vs nn) := Prod.ext h1 (Option.some.inj h3).symm
          rw [h4]
          exact N' _ (hn _ (hJl _ _ _ hm))
      · exact N' p (hn p h)
    · exact ha _ (.head _) p.1 (List.mem_map.mpr ⟨p, hp, rfl⟩) (List.mem_singleton.mp hq).symm
  · rintro h' tk m' news' F' N' _ hJ
    exact done m' news' h' tk hJ F' N'
theorem fr_two {h : Heap} {L : Addr} {m₁ m₀ : Str → Option Value} {x y : Str} (F : Fr h₀ L h m₁) (hm : ∀ z, z ≠ x → z ≠ y → m₁ z = m₀ z) : Fr h₀ L h (fun z => if z = x then m₁ z else if z = y then m₁ z else m₀ z) := by
  have e : (fun z => if z = x then m₁ z else if z = y then m₁ z else m₀ z) = m₁ := by
    funext z
    by_cases h1 : z = x
    · rw [if_pos h1]
    · rw [if_neg h1]
      by_cases h2 : z = y
      · rw [if_pos h2]
      · rw [if_neg h2, hm z h1 h2]
  rw [e]
  exact F
theorem sx_iterTT {l : Addr} {vs : List Value} {nn : Nat} {m₀ : Str → Option Value} {news : Led} {hp : Heap} {g : Array GenState} {d : Drawn} {tk : Nat} {os : OsState} {target : PySem.Expr} {x y : Str} (J : Nat → Led → Prop)
    (hh : A.handled = none) (hl : (l, tupOf vs nn) ∈ news) (F : Fr h₀ env.locals hp m₀) (N : News h₀ env.locals hp news) (S : Sep news) (hj : J 0 news) (hJl : ∀ i nx, J i nx → (l, tupOf vs nn) ∈ nx)
    (turn : ∀ i v nx h g' d' tk' os' I o (u : Str → Option Value), vs[i]? = some v → J i nx → Fr h₀ env.locals h (fun z => if z = x then u z else if z = y then u z else m₀ z) → News h₀ env.locals h ((I, o) :: nx) → Sep ((I, o) :: nx) →
      wpAny (model prog w) A (assign target env v) (fun _ s₃ => wpAny (model prog w) A (execs body env) (PostU h₀ env.locals (fun m nx' => (∀ z, z ≠ x → z ≠ y → m z = m₀ z) ∧ J (i + 1) nx' ∧ Sep nx') [(I, o)] ⟨h, g', d', tk', os'⟩) E s₃) E ⟨h, g', d', tk', os'⟩)
    (done : ∀ (u : Str → Option Value) nx h tk', J vs.length nx → Fr h₀ env.locals h (fun z => if z = x then u z else if z = y then u z else m₀ z) → News h₀ env.locals h nx → Sep nx → Q .next ⟨h, g, d, tk', os⟩) :
    wpAny (model prog w) A (pyIter (.ref l)) (fun it s₂ => LoopAtT prog w A h₀ env target body Q E it s₂) E ⟨hp, g, d, tk, os⟩ :=
  nt_iter_tupleT (s := ⟨hp, g, d, tk, os⟩) (fun i m nx => (∀ z, z ≠ x → z ≠ y → m z = m₀ z) ∧ J i nx ∧ Sep nx) hh hl F N ⟨fun _ _ _ => rfl, hj, S⟩ (fun i m nx h => hJl i nx h.2.1)
    (fun i v m₁ nx s₁ I o hv off hJ F₁ N₁ => turn i v nx s₁.heap s₁.gens s₁.drawn s₁.toks s₁.os I o m₁ hv hJ.2.1 (fr_two F₁ hJ.1) N₁ (sep_off hJ.2.2 off))
    (fun m₁ nx h tk' hJ F₁ N₁ => done m₁ nx h tk' hJ.2.1 (fr_two F₁ hJ.1) N₁ hJ.2.2)
theorem sx_turnEndT {L : Addr} {J : Led → Prop} {m' m₀ : Str → Option Value} {x y : Str} {I : Addr} {o : Obj} {nx : Led} {s₁ : Shared} {h' : Heap} {tk : Nat} (F : Fr h₀ L h' m') (N : News h₀ L h' ((I, o) :: nx)) (S : Sep ((I, o) :: nx))
    (hm : ∀ z, z ≠ x → z ≠ y → m' z = m₀ z) (hj : J nx) : PostU h₀ L (fun m nx' => (∀ z, z ≠ x → z ≠ y → m z = m₀ z) ∧ J nx' ∧ Sep nx') [(I, o)] s₁ .next { s₁ with heap := h', toks := tk } := ⟨rfl, nt_invEnd F N ⟨hm, hj, S.2⟩ (off_sep S)⟩
/-- a for over a tuple, its ledger told turn by turn -/
theorem sx_iterT {l : Addr} {vs : List Value} {nn : Nat} {m₀ : Str → Option Value} {news : Led} {hp : Heap} {g : Array GenState} {d : Drawn} {tk : Nat} {os : OsState} (J : Nat → Led → Prop)
    (hh : A.handled = none) (hl : (l, tupOf vs nn) ∈ news) (F : Fr h₀ env.locals hp m₀) (N : News h₀ env.locals hp news) (S : Sep news) (hj : J 0 news) (hJl : ∀ i nx, J i nx → (l, tupOf vs nn) ∈ nx)
    (turn : ∀ i v nx h tk' I o, vs[i]? = some v → J i nx → Fr h₀ env.locals h (fun y => if y = x then some v else m₀ y) → News h₀ env.locals h ((I, o) :: nx) → Sep ((I, o) :: nx) →
      wpAny (model prog w) A (execs body env) (InvPostG h₀ env.locals (fun m nx' => (∀ z, z ≠ x → m z = m₀ z) ∧ J (i + 1) nx' ∧ Sep nx') [(I, o)] ⟨h, g, d, tk', os⟩ Q) E ⟨h, g, d, tk', os⟩)
    (done : ∀ (u : Str → Option Value) nx h tk', J vs.length nx → Fr h₀ env.locals h (fun y => if y = x then u y else m₀ y) → News h₀ env.locals h nx → Sep nx → Q .next ⟨h, g, d, tk', os⟩) :
    wpAny (model prog w) A (pyIter (.ref l)) (fun it s₂ => LoopAtV prog w A h₀ env x body Q E it s₂) E ⟨hp, g, d, tk, os⟩ :=
  nt_iter_tuple (s := ⟨hp, g, d, tk, os⟩) (fun i m nx => (∀ z, z ≠ x → m z = m₀ z) ∧ J i nx ∧ Sep nx) hh hl F N ⟨fun _ _ => rfl, hj, S⟩ (fun i m nx h => hJl i nx h.2.1)
    (fun i v m₁ nx h tk' I o hv _ off hJ F₁ N₁ => turn i v nx h tk' I o hv hJ.2.1 (by rw [map_none hJ.1] at F₁; exact F₁) N₁ (sep_off hJ.2.2 off))
    (fun m₁ nx h tk' hJ F₁ N₁ => done m₁ nx h tk' hJ.2.1 (by rw [done_none hJ.1]; exact F₁) N₁ hJ.2.2)
theorem sx_turnEnd {L : Addr} {J : Led → Prop} {m' m₀ : Str → Option Value} {I : Addr} {o : Obj} {nx : Led} {s₁ : Shared} {h' : Heap} {tk : Nat} (F : Fr h₀ L h' m') (N : News h₀ L h' ((I, o) :: nx)) (S : Sep ((I, o) :: nx))
    (hm : ∀ z, z ≠ x → m' z = m₀ z) (hj : J nx) : InvEndG h₀ L (fun m nx' => (∀ z, z ≠ x → m z = m₀ z) ∧ J nx' ∧ Sep nx') [(I, o)] s₁ { s₁ with heap := h', toks := tk } := nt_invEnd F N ⟨hm, hj, S.2⟩ (off_sep S)
end
end NtMine

end
-- NtSameO
section
open PySem PySem.W PySem.Calls PyProof.Rows
set_option Elab.async false
namespace NtMine
set_option maxRecDepth 100000
set_option pp.deepTerms false
set_option pp.maxSteps 3000
theorem sep_one {l : Led} (S : Sep l) : ∀ {x : Addr} {o o' : Obj}, (x, o) ∈ l → (x, o') ∈ l → o = o' := by
  induction l with
  | nil => exact fun h => nomatch h
  | cons p r ih =>
    intro x o o' h h'
    rcases List.mem_cons.mp h with e | h
    · rcases List.mem_cons.mp h' with e' | h'
      · exact congrArg Prod.snd (e.trans e'.symm)
      · exact absurd (congrArg Prod.fst e) (S.1 (x, o') h')
    · rcases List.mem_cons.mp h' with e' | h'
      · exact absurd (congrArg Prod.fst e') (S.1 (x, o) h)
      · exact ih S.2 h h'
section
variable {w : World} {loose : List Str} {mean : ExcName → Option Value} {mg mb : Str → Option Value} {gd : Option (List Code)} {x y dx dy : Addr} {es ey : List DictEntry} {n ny : Nat} {a b : Int} {t u : Tok} {news : Led} {kx ky : Nat → Tok}
set_option maxHeartbeats 4000000
theorem same_ll (h1 : (x, instObj 79 dx) ∈ news) (h2 : (dx, ligD w.params kx (.int a t)) ∈ news) (h3 : (y, instObj 79 dy) ∈ news) (h4 : (dy, ligD w.params ky (.int b u)) ∈ news) : CodeK w loose mean mg mb gd 756 [.ref x, .ref y] 1 20 news (fun K => K (.bool (a == b)) news) := by
  refine' code_of_body (binds := [(Str.ofString "one", .ref x), (Str.ofString "other", .ref y)]) (fun _ _ h H => h _ _ H) ?ho ?hcd ?hbind ?hloc ?hb ?c1 ?c2 ?c3 ?c4 ?_
  k_extra "nt_body"
  intro dp un outer A₀ base h₀ L s Q E B F X N S T hd hu hE hret
  k_extra "nt_go"
  exact hret _ _ _ _ rfl (by k_asm) (by k_asm) (by k_asm)
theorem same_tt (h1 : (x, instObj 523 dx) ∈ news) (h2 : (dx, dictOf es n) ∈ news) : CodeK w loose mean mg mb gd 756 [.ref x, .ref x] 1 20 news (fun K => K (.bool true) news) := by
  refine' code_of_body (binds := [(Str.ofString "one", .ref x), (Str.ofString "other", .ref x)]) (fun _ _ h H => h _ _ H) ?ho ?hcd ?hbind ?hloc ?hb ?c1 ?c2 ?c3 ?c4 ?_
  k_extra "nt_body"
  intro dp un outer A₀ base h₀ L s Q E B F X N S T hd hu hE hret
  k_extra "nt_go"
  exact hret _ _ _ _ rfl (by k_asm) (by k_asm) (by k_asm)
theorem same_th (h1 : (x, instObj 523 dx) ∈ news) (h2 : (dx, dictOf es n) ∈ news) (h3 : (y, instObj 677 dy) ∈ news) (h4 : (dy, dictOf ey ny) ∈ news) : CodeK w loose mean mg mb gd 756 [.ref x, .ref y] 1 20 news (fun K => K (.bool false) news) := by
  refine' code_of_body (binds := [(Str.ofString "one", .ref x), (Str.ofString "other", .ref y)]) (fun _ _ h H => h _ _ H) ?ho ?hcd ?hbind ?hloc ?hb ?c1 ?c2 ?c3 ?c4 ?_
  k_extra "nt_body"
  intro dp un outer A₀ base h₀ L s Q E B F X N S T hd hu hE hret
  have hne : x ≠ y := fun e => by subst e; exact absurd (sep_one S h1 h3) (fun e => by simp at e)
  k_extra "nt_go"
  exact hret _ _ _ _ rfl (by k_asm) (by k_asm) (by k_asm)
theorem same_ii : CodeK w loose mean mg mb gd 756 [.int a t, .int b u] 1 20 news (fun K => K (.bool false) news) := by
  refine' code_of_body (binds := [(Str.ofString "one", .int a t), (Str.ofString "other", .int b u)]) (fun _ _ h H => h _ _ H) ?ho ?hcd ?hbind ?hloc ?hb ?c1 ?c2 ?c3 ?c4 ?_
  k_extra "nt_body"
  intro dp un outer A₀ base h₀ L s Q E B F X N S T hd hu hE hret
  k_extra "nt_go"
  exact hret _ _ _ _ rfl (by k_asm) (by k_asm) (by k_asm)
theorem same_lt (h1 : (x, instObj 79 dx) ∈ news) (h2 : (dx, dictOf es n) ∈ news) (h3 : (y, instObj 523 dy) ∈ news) (h4 : (dy, dictOf ey ny) ∈ news) : CodeK w loose mean mg mb gd 756 [.ref x, .ref y] 1 20 news (fun K => K (.bool false) news) := by
  refine' code_of_body (binds := [(Str.ofString "one", .ref x), (Str.ofString "other", .ref y)]) (fun _ _ h H => h _ _ H) ?ho ?hcd ?hbind ?hloc ?hb ?c1 ?c2 ?c3 ?c4 ?_
  k_extra "nt_body"
  intro dp un outer A₀ base h₀ L s Q E B F X N S T hd hu hE hret
  k_extra "nt_go"
  exact hret _ _ _ _ rfl (by k_asm) (by k_asm) (by k_asm)
end
end NtMine

end
-- NtObF
section
theorem NtMine.InNtObF.YesNtObF.here : True := True.intro
open NtMine.InNtObF
open PySem PySem.W PySem.Calls PyProof.Rows
set_option Elab.async false
namespace NtMine
set_option maxRecDepth 100000
set_option pp.deepTerms false
set_option pp.maxSteps 3000
set_option rowWalk.seconds 200
section
variable {w : World} {loose : List Str} {mean : ExcName → Option Value} {mg mb : Str → Option Value} {gd : Option (List Code)}
set_option maxHeartbeats 4000000
theorem nt_neBytes {prog : Program} {w : World} {A : Around} {E : Value → Shared → Prop} {s : Shared} {b : Array UInt8} {t u : Tok} {Q : Value → Shared → Prop} (h : Q (.bool false) s) : wpAny (model prog w) A (compareOp .NotEq (.bytes b t) (.bytes b u)) Q E s :=
  ne_bytes (by simpa using h)
theorem ob_f {so th tr dt dr : Addr} {et er : List DictEntry} {nt nr : Nat} {a0 a1 a2 a3 a4 a5 a6 a7 : Int} {t0 t1 t2 t3 t4 t5 t6 t7 : Tok} {more : List Value} {sn : Nat} (hp6 : 0 ≤ a6) (hp7 : 0 ≤ a7) :
   SegK w loose mean mg mb gd 939 (Str.ofString "_law_objects_right") (tS 75) (.ref 938) (fun _ => []) ((tB 75).drop 7) 10 150
    (fun m₀ y => if y = Str.ofString "thread" then some (.ref tr) else if y = Str.ofString "thing" then some (.ref th) else if y = Str.ofString "some" then some (.ref so) else m₀ y)
    (fun _ => (th, instObj 523 dt) :: (dt, dictOf et nt) :: (tr, instObj 677 dr) :: (dr, dictOf er nr) :: (so, listOf (someL a0 a1 a2 a3 a4 a5 a6 a7 t0 t1 t2 t3 t4 t5 t6 t7 more).toArray sn) :: [])
    (fun K => K (.bool true) ((so, listOf (someL a0 a1 a2 a3 a4 a5 a6 a7 t0 t1 t2 t3 t4 t5 t6 t7 more).toArray sn) :: [])) := by
  intro dp un outer A₀ base h₀ L m₀ s Q E B F X N S T hd hu hE hret
  have e6 : 0 ≤ a6.fmod (10 ^ Int.toNat 9) := Int.fmod_nonneg hp6 (by decide)
  have e6' : a6.fmod (10 ^ Int.toNat 9) < 10 ^ 12 := Int.lt_of_lt_of_le (Int.fmod_lt_of_pos _ (by decide)) (by decide)
  have e7 : 0 ≤ a7.fmod 12 := Int.fmod_nonneg hp7 (by decide)
  have e7' : a7.fmod 12 < 12 := Int.fmod_lt_of_pos _ (by decide)
  refine execs_as rfl ?_
  k_with "call ref" => ((open YesNtObF in skip); k_here; (with_reducible show wpAny _ _ (call (Value.ref 728) _) _ _ _); k_dflt (refine' code_use (hex_k ?ha1 ?ha2 ?ha3) ?kB ?kF ?kX ?kN ?kS ?kP ?kT ?kk ?kd ?ku ?_; k_extra "nt_use0"; (case ha1 => exact e6); (case ha2 => exact e6'); (case ha3 => exact ⟨e7, by omega⟩); k_whole); intro t9 h' tk' F' N' S'; (try k_sweep))
  k_with "call ref" => ((open YesNtObF in skip); k_here; (with_reducible show wpAny _ _ (call (Value.ref 932) _) _ _ _); k_dflt (refine' code_use (lhex_k ?ha1 ?ha2 ?ha3) ?kB ?kF ?kX ?kN ?kS ?kP ?kT ?kk ?kd ?ku ?_; k_extra "nt_use0"; (case ha1 => exact e6); (case ha2 => exact e6'); (case ha3 => exact ⟨e7, by omega⟩); k_whole); intro t9 h' tk' F' N' S'; (try k_sweep))
  k_with "compareOp NotEq bytes bytes" => ((open YesNtObF in skip); k_dflt (refine nt_neBytes ?_))
  k_with "call ref" => ((open YesNtObF in skip); k_here; (with_reducible show wpAny _ _ (call (Value.ref 79) _) _ _ _); k_dflt (refine' make_use mk_lig ?kB ?kF ?kX ?kN ?kS ?kP ?kT ?kk ?kd ?ku ?_; k_extra "nt_use0"; k_whole); intro x' dx' kt' h' tk' F' N' S'; (try k_sweep))
  k_with "nt_mm" => ((open YesNtObF in skip); first | with_reducible assumption | k_extra "nt_mem")
  k_with "call ref" => ((open YesNtObF in skip); k_here; (with_reducible show wpAny _ _ (call (Value.ref 756) [Value.int _ _, Value.int _ _]) _ _ _); k_dflt (refine' code_use same_ii ?kB ?kF ?kX ?kN ?kS ?kP ?kT ?kk ?kd ?ku ?_; k_extra "nt_use0"; k_whole); intro h' tk' F' N' S'; (try k_sweep))
  k_with "call ref" => ((open YesNtObF in skip); k_here; (with_reducible show wpAny _ _ (call (Value.ref 756) [Value.ref th, Value.ref th]) _ _ _); k_dflt (refine' code_use (same_tt ?sa1 ?sa2) ?kB ?kF ?kX ?kN ?kS ?kP ?kT ?kk ?kd ?ku ?_; k_extra "nt_use0"; (case sa1 => k_extra "nt_mem"); (case sa2 => k_extra "nt_mem"); k_whole); intro h' tk' F' N' S'; (try k_sweep))
  k_with "call ref" => ((open YesNtObF in skip); k_here; (with_reducible show wpAny _ _ (call (Value.ref 756) [Value.ref th, Value.ref tr]) _ _ _); k_dflt (refine' code_use (same_th ?sa1 ?sa2 ?sa3 ?sa4) ?kB ?kF ?kX ?kN ?kS ?kP ?kT ?kk ?kd ?ku ?_; k_extra "nt_use0"; (case sa1 => k_extra "nt_mem"); (case sa2 => k_extra "nt_mem"); (case sa3 => k_extra "nt_mem"); (case sa4 => k_extra "nt_mem"); k_whole); intro h' tk' F' N' S'; (try k_sweep))
  k_with "nt_sll" => ((open YesNtObF in skip); k_dflt (refine' code_use (same_ll ?sa1 ?sa2 ?sa3 ?sa4) ?kB ?kF ?kX ?kN ?kS ?kP ?kT ?kk ?kd ?ku ?_; k_extra "nt_use0"; (case sa1 => k_extra "nt_mem"); (case sa2 => k_extra "nt_mem"); (case sa3 => k_extra "nt_mem"); (case sa4 => k_extra "nt_mem"); k_whole))
  k_with "nt_slt" => ((open YesNtObF in skip); k_dflt (refine' code_use (same_lt ?sa1 ?sa2 ?sa3 ?sa4) ?kB ?kF ?kX ?kN ?kS ?kP ?kT ?kk ?kd ?ku ?_; k_extra "nt_use0"; (case sa1 => k_extra "nt_mem"); (case sa2 => k_extra "nt_mem"); (case sa3 => k_extra "nt_mem"); (case sa4 => k_extra "nt_mem"); k_whole))
  k_with "call ref" => ((open YesNtObF in skip); k_here; (with_reducible show wpAny _ _ (call (Value.ref 756) [Value.ref _, Value.ref _]) _ _ _); (fail_if_success (with_reducible show wpAny _ _ (call (Value.ref 756) [Value.ref th, Value.ref _]) _ _ _)); (first | k_extra "nt_sll" | k_extra "nt_slt"); intro h' tk' F' N' S'; (try k_sweep))
  k_extra "nt_go"
  exact hret _ _ _ _ rfl (by k_asm) (arr_news (by k_asm) (by k_extra "nt_arr")) (arr_sep (by k_asm) (by k_extra "nt_arr"))
end
end NtMine

end
-- NtObD
section
theorem NtMine.InNtObD.YesNtObD.here : True := True.intro
open NtMine.InNtObD
open PySem PySem.W PySem.Calls PyProof.Rows
set_option Elab.async false
namespace NtMine
set_option maxRecDepth 100000
set_option pp.deepTerms false
set_option pp.maxSteps 3000
set_option rowWalk.seconds 200
noncomputable abbrev datN (P : Params) (kt : Nat → Tok) (num q m e : Value) : Obj :=
  dictOf [ent P "number" (kt 0) num, ent P "mark" (kt 2) (.int 0 (kt 3)), ent P "size" (kt 4) (.int 5 (kt 5)), ent P "value" (kt 6) q, ent P "meta" (kt 7) m, ent P "env" (kt 8) e, ent P "is_finalized" (kt 9) (.bool false)] 7
noncomputable abbrev pyN (P : Params) (kt : Nat → Tok) (num : Value) (z : Int) (f b u e : Value) : Obj :=
  dictOf [ent P "number" (kt 0) num, ent P "mark" (kt 2) (.int 0 (kt 3)), ent P "size" (kt 4) (.int z (kt 5)), ent P "function" (kt 6) f, ent P "name" (kt 7) b, ent P "upvals" (kt 8) u, ent P "env" (kt 9) e] 7
section
variable {w : World} {loose : List Str} {mean : ExcName → Option Value} {mg mb : Str → Option Value} {gd : Option (List Code)}
set_option maxHeartbeats 4000000
theorem ob_d {so th tr tb he dt dr db dh stk frs up : Addr} {z : Int} {f b u top : Value} {kd' kr kb kh : Nat → Tok} {bt : Nat → Addr} {a0 a1 a2 a3 a4 a5 a6 a7 : Int} {t0 t1 t2 t3 t4 t5 t6 t7 ta : Tok} {more : List Value} {sn : Nat}
   (Z : SegK w loose mean mg mb gd 939 (Str.ofString "_law_objects_right") (tS 75) (.ref 938) (fun _ => []) ((tB 75).drop 6) 11 200
    (fun m₀ y => if y = Str.ofString "thread" then some (.ref tr) else if y = Str.ofString "thing" then some (.ref th) else if y = Str.ofString "table" then some (.ref tb) else if y = Str.ofString "helper" then some (.ref he) else if y = Str.ofString "some" then some (.ref so) else m₀ y)
    (fun _ => (th, instObj 523 dt) :: (dt, datN w.params kd' (.int 0 (kd' 1)) (.int a0 ta) .none (.ref tb)) :: (tr, instObj 677 dr) :: (dr, thrE w.params kr (.int 0 (kr 1)) stk top frs up (.ref tb)) :: (tb, instObj 408 db) :: (db, tabD w.params kb bt (.int 0 (kb 16))) ::
      (he, instObj 504 dh) :: (dh, pyN w.params kh (.int 0 (kh 1)) z f b u (.ref tb)) :: (so, listOf (someL a0 a1 a2 a3 a4 a5 a6 a7 t0 t1 t2 t3 t4 t5 t6 t7 more).toArray sn) :: [])
    (fun K => K (.bool true) ((so, listOf (someL a0 a1 a2 a3 a4 a5 a6 a7 t0 t1 t2 t3 t4 t5 t6 t7 more).toArray sn) :: []))) :
   SegK w loose mean mg mb gd 939 (Str.ofString "_law_objects_right") (tS 75) (.ref 938) (fun _ => []) ((tB 75).drop 4) 11 200
    (fun m₀ y => if y = Str.ofString "thread" then some (.ref tr) else if y = Str.ofString "thing" then some (.ref th) else if y = Str.ofString "table" then some (.ref tb) else if y = Str.ofString "helper" then some (.ref he) else if y = Str.ofString "some" then some (.ref so) else m₀ y)
    (fun _ => (th, instObj 523 dt) :: (dt, datN w.params kd' (.int 0 (kd' 1)) (.int a0 ta) .none (.ref tb)) :: (tr, instObj 677 dr) :: (dr, thrE w.params kr (.int 0 (kr 1)) stk top frs up (.ref tb)) :: (tb, instObj 408 db) :: (db, tabD w.params kb bt (.int 0 (kb 16))) ::
      (he, instObj 504 dh) :: (dh, pyN w.params kh (.int 0 (kh 1)) z f b u (.ref tb)) :: (so, listOf (someL a0 a1 a2 a3 a4 a5 a6 a7 t0 t1 t2 t3 t4 t5 t6 t7 more).toArray sn) :: [])
    (fun K => K (.bool true) ((so, listOf (someL a0 a1 a2 a3 a4 a5 a6 a7 t0 t1 t2 t3 t4 t5 t6 t7 more).toArray sn) :: [])) := by
  intro dp un outer A₀ base h₀ L m₀ s Q E B F X N S T hd hu hE hret
  refine execs_as rfl ?_
  k_with "compareOp NotEq ref ref" => ((open YesNtObD in skip); k_here; (with_reducible show wpAny _ _ (compareOp _ (Value.ref tb) (Value.ref tb)) _ _ _); k_dflt (refine' nt_neSelf ?yk1 ?yk2 ?yk3 ?yk4 ?yk5 ?yk6 ?yk7 ?_; (case yk2 => k_asm); (case yk3 => k_asm); (case yk4 => (refine' InstAt.of_news ?yN ?yh1 ?yh2; (case yN => k_asm); (case yh1 => k_extra "nt_mem"); (case yh2 => k_extra "nt_mem"))); (case yk5 => k_is); (case yk6 => k_is); (case yk7 => k_is); (case yk1 => ktr_units); k_whole))
  k_with "execs cons" => ((open YesNtObD in skip); (with_reducible show wpAny _ _ (execs (PySem.Stmt.For _ _ _ _ _ :: _) _) _ _ _); refine Park.out ?_)
  k_extra "nt_go"
  refine Park.out ?_
  unfold Park
  k_dflt (refine' segk_use Z ?kB ?F1 ?kX ?kN ?kS ?kP ?kT ?kd ?ku ?kE ?R1)
  case F1 =>
    refine fr_put (fr_put (fr_put (fr_put (fr_put (by k_asm) ?_) ?_) ?_) ?_) ?_
    all_goals exact rfl
  k_extra "nt_seg"
  exact hret
end
end NtMine

end
-- NtObE
section
theorem NtMine.InNtObE.YesNtObE.here : True := True.intro
open NtMine.InNtObE
open PySem PySem.W PySem.Calls PyProof.Rows
set_option Elab.async false
namespace NtMine
set_option maxRecDepth 100000
set_option pp.deepTerms false
set_option pp.maxSteps 3000
set_option rowWalk.seconds 200
/-- what stands in the fourth loop: the numbers set so far -/
noncomputable abbrev obL (P : Params) (th tr tb he dt dr db dh stk frs up so l p0 p1 p2 p3 : Addr) (z : Int) (f b u top : Value) (kd kr kb kh : Nat → Tok) (bt : Nat → Addr) (a0 : Int) (ta : Tok) (some : List Value) (sn : Nat) (w0 w1 w2 w3 : Tok) (n0 n1 n2 n3 : Value) : Led :=
  (l, tupOf [.ref p0, .ref p1, .ref p2, .ref p3] 0) :: (p3, tupOf [.bytes [102, 117, 110, 99, 116, 105, 111, 110].toArray w3, .ref he] 0) :: (p2, tupOf [.bytes [116, 104, 114, 101, 97, 100].toArray w2, .ref tr] 0) :: (p1, tupOf [.bytes [117, 115, 101, 114, 100, 97, 116, 97].toArray w1, .ref th] 0) ::
  (p0, tupOf [.bytes [116, 97, 98, 108, 101].toArray w0, .ref tb] 0) :: (th, instObj 523 dt) :: (dt, datN P kd n1 (.int a0 ta) .none (.ref tb)) :: (tr, instObj 677 dr) :: (dr, thrE P kr n2 stk top frs up (.ref tb)) :: (tb, instObj 408 db) :: (db, tabD P kb bt n0) ::
  (he, instObj 504 dh) :: (dh, pyN P kh n3 z f b u (.ref tb)) :: (so, listOf some.toArray sn) :: []
noncomputable abbrev obJ (L : Value → Value → Value → Value → Led) (z0 z1 z2 z3 : Value) (n : Int) : Nat → Led → Prop
  | 0, nx => nx = L z0 z1 z2 z3
  | 1, nx => ∃ t0, nx = L (.int n t0) z1 z2 z3
  | 2, nx => ∃ t0 t1, nx = L (.int n t0) (.int n t1) z2 z3
  | 3, nx => ∃ t0 t1 t2, nx = L (.int n t0) (.int n t1) (.int n t2) z3
  | _, nx => ∃ t0 t1 t2 t3, nx = L (.int n t0) (.int n t1) (.int n t2) (.int n t3)
theorem obJ_mem {L : Value → Value → Value → Value → Led} {z0 z1 z2 z3 : Value} {n : Int} {p : Addr × Obj} (h : ∀ a b c d, p ∈ L a b c d) : ∀ i nx, obJ L z0 z1 z2 z3 n i nx → p ∈ nx
  | 0, _, e => e ▸ h _ _ _ _
  | 1, _, ⟨_, e⟩ => e ▸ h _ _ _ _
  | 2, _, ⟨_, _, e⟩ => e ▸ h _ _ _ _
  | 3, _, ⟨_, _, _, e⟩ => e ▸ h _ _ _ _
  | _ + 4, _, ⟨_, _, _, _, e⟩ => e ▸ h _ _ _ _
theorem sx_cat0 {prog : Program} {w : World} {A : Around} {E : Value → Shared → Prop} {hp : Heap} {g : Array GenState} {d : Drawn} {tk : Nat} {os : OsState} {a b : List UInt8} {u1 u2 : Tok} {Q : Value → Shared → Prop} (ha : a.length ≤ 20) (hb : b.length ≤ 20)
    (h : ∀ t' tk', Q (.bytes (a ++ b).toArray t') ⟨hp, g, d, tk', os⟩) : wpAny (model prog w) A (binaryOp .Add (.bytes a.toArray u1) (.bytes b.toArray u2)) Q E ⟨hp, g, d, tk, os⟩ :=
  KBy.add_bytes (by rw [List.size_toArray, List.size_toArray]; omega) fun t' tk' => by
    have e : a.toArray ++ b.toArray = (a ++ b).toArray := by simp
    rw [e]
    exact h t' tk'
theorem ob_set {prog : Program} {w : World} {A : Around} {E : Value → Shared → Prop} {K : Frag} {x C dx L I : Addr} {o : Obj} {h₀ hp : Heap} {g : Array GenState} {d : Drawn} {tk : Nat} {os : OsState} {m : Str → Option Value} {nx : Led} {es : List DictEntry} {n : Nat} {N0 : Int} {t : Tok} {Q : Unit → Shared → Prop} {Z : Led → List DictEntry → Nat → Prop}
   (c1 : findIn K (.ref C) (Str.ofString "__setattr__") = some (some (.builtin "object.__setattr__"))) (c2 : plainOver K C = true) (c3 : takerIn K C (Str.ofString "number") = some none) (c4 : hasDictIn K C = true) (hsome : (getL (Str.ofString "number") es).isSome = true) (hx : (x, instObj C dx) ∈ nx)
   (step : ∀ tk t, ∃ es' n' nx', (putL (Str.ofString "number") (PyData.keyHash w.params (Str.ofString "number")) (.str (Str.ofString "number") tk) (.int N0 t) es, putN (Str.ofString "number") es n) = (es', n') ∧ es'.length ≤ 1000 ∧ Put dx (dictOf es n) (dictOf es' n') nx nx' ∧ gets "number" es' (.int N0 t) ∧ Z nx' es' n')
   (F : Fr h₀ L hp m) (X : K.In h₀) (N : News h₀ L hp ((I, o) :: nx)) (S : Sep ((I, o) :: nx))
   (h : ∀ nx' es' n' h' tk', gets "number" es' (.int N0 t) → Z nx' es' n' → Fr h₀ L h' m → News h₀ L h' ((I, o) :: nx') → Sep ((I, o) :: nx') → Q () ⟨h', g, d, tk', os⟩) :
   wpAny (model prog w) A (setAttr (.ref x) (Str.ofString "number") (.int N0 t)) Q E ⟨hp, g, d, tk, os⟩ := by
  obtain ⟨es', n', nx', e, hl, P, hg, hz⟩ := step (tk + 1) t
  exact sx_set F X N S (.tail _ hx) (.tail P) e c1 c2 c3 c4 hsome hl fun h' tk' F' N' S' => h _ _ _ _ _ hg hz F' N' S'
section
variable {w : World} {loose : List Str} {mean : ExcName → Option Value} {mg mb : Str → Option Value} {gd : Option (List Code)}
set_option maxHeartbeats 4000000
theorem ob_step {P : Params} {x dx so C : Addr} {sv : List Value} {sn : Nat} {es es' : List DictEntry} {n n' tk : Nat} {N0 : Int} {t : Tok} {nx nx' : Led} {J : Led → Prop}
   (e : (putL (Str.ofString "number") (PyData.keyHash P (Str.ofString "number")) (.str (Str.ofString "number") tk) (.int N0 t) es, putN (Str.ofString "number") es n) = (es', n')) (hl : es'.length ≤ 1000) (hP : Put dx (dictOf es n) (dictOf es' n') nx nx') (hg : gets "number" es' (.int N0 t)) (m1 : (x, instObj C dx) ∈ nx') (m2 : (dx, dictOf es' n') ∈ nx') (m3 : (so, listOf sv.toArray sn) ∈ nx') (hj : J nx') :
   ∃ es' n' nx', (putL (Str.ofString "number") (PyData.keyHash P (Str.ofString "number")) (.str (Str.ofString "number") tk) (.int N0 t) es, putN (Str.ofString "number") es n) = (es', n') ∧ es'.length ≤ 1000 ∧ Put dx (dictOf es n) (dictOf es' n') nx nx' ∧ gets "number" es' (.int N0 t) ∧ (x, instObj C dx) ∈ nx' ∧ (dx, dictOf es' n') ∈ nx' ∧ (so, listOf sv.toArray sn) ∈ nx' ∧ J nx' :=
  ⟨_, _, _, e, hl, hP, hg, m1, m2, m3, hj⟩
/-- what a turn wants to know of its item -/
theorem ob_data {so th tr tb he dt dr db dh stk frs up l p0 p1 p2 p3 : Addr} {z N0 : Int} {f b u top : Value} {kd' kr kb kh : Nat → Tok} {bt : Nat → Addr} {a0 : Int} {ta : Tok} {sv : List Value} {sn : Nat} {w0 w1 w2 w3 : Tok} {i : Nat} {v : Value} {nx : Led}
   (g0 : 0 ≤ N0) (g1 : N0 < 10 ^ 12) (hv : [Value.ref p0, .ref p1, .ref p2, .ref p3][i]? = some v) (hJ : obJ (obL w.params th tr tb he dt dr db dh stk frs up so l p0 p1 p2 p3 z f b u top kd' kr kb kh bt a0 ta sv sn w0 w1 w2 w3) (.int 0 (kb 16)) (.int 0 (kd' 1)) (.int 0 (kr 1)) (.int 0 (kh 1)) N0 i nx) {G : Prop}
   (k : ∀ (p x dx C : Addr) (wd : List UInt8) (wt : Tok) (es : List DictEntry) (n : Nat), v = .ref p → (p, tupOf [.bytes wd.toArray wt, .ref x] 0) ∈ nx → (x, instObj C dx) ∈ nx → (so, listOf sv.toArray sn) ∈ nx → wd.length ≤ 20 →
     findIn (hd.heap_39 w.params) (.ref C) (Str.ofString "__setattr__") = some (some (.builtin "object.__setattr__")) → plainOver (hd.heap_39 w.params) C = true → takerIn (hd.heap_39 w.params) C (Str.ofString "number") = some none → hasDictIn (hd.heap_39 w.params) C = true →
     (getL (Str.ofString "number") es).isSome = true → (dx, dictOf es n) ∈ nx →
     (∀ tk t, ∃ es' n' nx', (putL (Str.ofString "number") (PyData.keyHash w.params (Str.ofString "number")) (.str (Str.ofString "number") tk) (.int N0 t) es, putN (Str.ofString "number") es n) = (es', n') ∧ es'.length ≤ 1000 ∧ Put dx (dictOf es n) (dictOf es' n') nx nx' ∧ gets "number" es' (.int N0 t) ∧ (x, instObj C dx) ∈ nx' ∧ (dx, dictOf es' n') ∈ nx' ∧ (so, listOf sv.toArray sn) ∈ nx' ∧ obJ (obL w.params th tr tb he dt dr db dh stk frs up so l p0 p1 p2 p3 z f b u top kd' kr kb kh bt a0 ta sv sn w0 w1 w2 w3) (.int 0 (kb 16)) (.int 0 (kd' 1)) (.int 0 (kr 1)) (.int 0 (kh 1)) N0 (i + 1) nx') →
     (∀ led es' n' t, (x, instObj C dx) ∈ led → (dx, dictOf es' n') ∈ led → gets "number" es' (.int N0 t) → CodeK w loose mean mg mb gd 721 [.ref x] 4 80 led (fun K => ∀ t, K (.bytes ((wd ++ [58, 32, 48, 120]) ++ hexB N0 8).toArray t) led)) → G) : G := by
  have hi : i < 4 := (List.getElem?_eq_some_iff.mp hv).1
  have hi4 : i = 0 ∨ i = 1 ∨ i = 2 ∨ i = 3 := by omega
  rcases hi4 with rfl | rfl | rfl | rfl
  · obtain rfl := hJ
    refine' k p0 tb db 408 [116, 97, 98, 108, 101] w0 _ _ (Option.some.inj hv).symm ?m1x0 ?m2x0 ?m3x0 (by decide) ?k1x0 ?k2x0 ?k3x0 ?k4x0 ?k5x0 ?m4x0 ?stx0 (fun led es' n' t h1 h2 h3 => text_tab h1 h2 h3 g0 g1)
    case m1x0 => k_extra "nt_mem"
    case m2x0 => k_extra "nt_mem"
    case m3x0 => k_extra "nt_mem"
    case m4x0 => k_extra "nt_mem"
    case stx0 =>
      intro tk t
      exact ob_step (by k_put) (by exact Nat.le_of_ble_eq_true rfl) (by k_extra "nt_put") (by k_extra "nt_gets") (by k_extra "nt_mem") (by k_extra "nt_mem") (by k_extra "nt_mem") ⟨t, rfl⟩
    all_goals first | exact rfl | k_is | k_get | exact Nat.le_of_ble_eq_true rfl
  · obtain ⟨_, rfl⟩ := hJ
    refine' k p1 th dt 523 [117, 115, 101, 114, 100, 97, 116, 97] w1 _ _ (Option.some.inj hv).symm ?m1x1 ?m2x1 ?m3x1 (by decide) ?k1x1 ?k2x1 ?k3x1 ?k4x1 ?k5x1 ?m4x1 ?stx1 (fun led es' n' t h1 h2 h3 => text_dat h1 h2 h3 g0 g1)
    case m1x1 => k_extra "nt_mem"
    case m2x1 => k_extra "nt_mem"
    case m3x1 => k_extra "nt_mem"
    case m4x1 => k_extra "nt_mem"
    case stx1 =>
      intro tk t
      exact ob_step (by k_put) (by exact Nat.le_of_ble_eq_true rfl) (by k_extra "nt_put") (by k_extra "nt_gets") (by k_extra "nt_mem") (by k_extra "nt_mem") (by k_extra "nt_mem") ⟨_, t, rfl⟩
    all_goals first | exact rfl | k_is | k_get | exact Nat.le_of_ble_eq_true rfl
  · obtain ⟨_, _, rfl⟩ := hJ
    refine' k p2 tr dr 677 [116, 104, 114, 101, 97, 100] w2 _ _ (Option.some.inj hv).symm ?m1x2 ?m2x2 ?m3x2 (by decide) ?k1x2 ?k2x2 ?k3x2 ?k4x2 ?k5x2 ?m4x2 ?stx2 (fun led es' n' t h1 h2 h3 => text_thr h1 h2 h3 g0 g1)
    case m1x2 => k_extra "nt_mem"
    case m2x2 => k_extra "nt_mem"
    case m3x2 => k_extra "nt_mem"
    case m4x2 => k_extra "nt_mem"
    case stx2 =>
      intro tk t
      exact ob_step (by k_put) (by exact Nat.le_of_ble_eq_true rfl) (by k_extra "nt_put") (by k_extra "nt_gets") (by k_extra "nt_mem") (by k_extra "nt_mem") (by k_extra "nt_mem") ⟨_, _, t, rfl⟩
    all_goals first | exact rfl | k_is | k_get | exact Nat.le_of_ble_eq_true rfl
  · obtain ⟨_, _, _, rfl⟩ := hJ
    refine' k p3 he dh 504 [102, 117, 110, 99, 116, 105, 111, 110] w3 _ _ (Option.some.inj hv).symm ?m1x3 ?m2x3 ?m3x3 (by decide) ?k1x3 ?k2x3 ?k3x3 ?k4x3 ?k5x3 ?m4x3 ?stx3 (fun led es' n' t h1 h2 h3 => text_py h1 h2 h3 g0 g1)
    case m1x3 => k_extra "nt_mem"
    case m2x3 => k_extra "nt_mem"
    case m3x3 => k_extra "nt_mem"
    case m4x3 => k_extra "nt_mem"
    case stx3 =>
      intro tk t
      exact ob_step (by k_put) (by exact Nat.le_of_ble_eq_true rfl) (by k_extra "nt_put") (by k_extra "nt_gets") (by k_extra "nt_mem") (by k_extra "nt_mem") (by k_extra "nt_mem") ⟨_, _, _, t, rfl⟩
    all_goals first | exact rfl | k_is | k_get | exact Nat.le_of_ble_eq_true rfl
theorem ob_e {so th tr tb he dt dr db dh stk frs up : Addr} {z : Int} {f b u top : Value} {kd' kr kb kh : Nat → Tok} {bt : Nat → Addr} {a0 a1 a2 a3 a4 a5 a6 a7 : Int} {t0 t1 t2 t3 t4 t5 t6 t7 ta : Tok} {more : List Value} {sn : Nat} (hp5 : 0 ≤ a5)
   (Z : ∀ {et er : List DictEntry} {nt nr : Nat}, SegK w loose mean mg mb gd 939 (Str.ofString "_law_objects_right") (tS 75) (.ref 938) (fun _ => []) ((tB 75).drop 7) 10 150
    (fun m₀ y => if y = Str.ofString "thread" then some (.ref tr) else if y = Str.ofString "thing" then some (.ref th) else if y = Str.ofString "some" then some (.ref so) else m₀ y)
    (fun _ => (th, instObj 523 dt) :: (dt, dictOf et nt) :: (tr, instObj 677 dr) :: (dr, dictOf er nr) :: (so, listOf (someL a0 a1 a2 a3 a4 a5 a6 a7 t0 t1 t2 t3 t4 t5 t6 t7 more).toArray sn) :: [])
    (fun K => K (.bool true) ((so, listOf (someL a0 a1 a2 a3 a4 a5 a6 a7 t0 t1 t2 t3 t4 t5 t6 t7 more).toArray sn) :: []))) :
   SegK w loose mean mg mb gd 939 (Str.ofString "_law_objects_right") (tS 75) (.ref 938) (fun _ => []) ((tB 75).drop 6) 11 200
    (fun m₀ y => if y = Str.ofString "thread" then some (.ref tr) else if y = Str.ofString "thing" then some (.ref th) else if y = Str.ofString "table" then some (.ref tb) else if y = Str.ofString "helper" then some (.ref he) else if y = Str.ofString "some" then some (.ref so) else m₀ y)
    (fun _ => (th, instObj 523 dt) :: (dt, datN w.params kd' (.int 0 (kd' 1)) (.int a0 ta) .none (.ref tb)) :: (tr, instObj 677 dr) :: (dr, thrE w.params kr (.int 0 (kr 1)) stk top frs up (.ref tb)) :: (tb, instObj 408 db) :: (db, tabD w.params kb bt (.int 0 (kb 16))) ::
      (he, instObj 504 dh) :: (dh, pyN w.params kh (.int 0 (kh 1)) z f b u (.ref tb)) :: (so, listOf (someL a0 a1 a2 a3 a4 a5 a6 a7 t0 t1 t2 t3 t4 t5 t6 t7 more).toArray sn) :: [])
    (fun K => K (.bool true) ((so, listOf (someL a0 a1 a2 a3 a4 a5 a6 a7 t0 t1 t2 t3 t4 t5 t6 t7 more).toArray sn) :: [])) := by
  intro dp un outer A₀ base h₀ L m₀ s Q E B F X N S T hd hu hE hret
  have e5 : 0 ≤ a5.fmod (10 ^ Int.toNat 12) := Int.fmod_nonneg hp5 (by decide)
  have e5' : a5.fmod (10 ^ Int.toNat 12) < 10 ^ 12 := Int.lt_of_lt_of_le (Int.fmod_lt_of_pos _ (by decide)) (by decide)
  refine execs_as rfl ?_
  k_with "pyIter ref" => ((open YesNtObE in skip); refine Park.out ?_)
  k_extra "nt_go"
  refine Park.out ?_
  unfold Park
  rename News _ _ _ _ => N9
  rename Sep _ => S9
  rename Fr _ _ _ _ => F9
  k_with "call ref" => ((open YesNtObE in skip); k_here; (with_reducible show wpAny _ _ (call (Value.ref 932) _) _ _ _); k_dflt (refine' code_use (lhex_k e5 e5' ?xa3) ?kB ?kF ?kX ?kN ?kS ?kP ?kT ?kk ?kd ?ku ?_; k_extra "nt_use0"; (case xa3 => decide); k_whole); intro t9 h' tk' F' N' S'; (try k_sweep))
  k_with "compareOp NotEq bytes bytes" => ((open YesNtObE in skip); k_dflt (refine nt_neBytes ?_))
  k_dflt (refine' sx_iterTT (x := Str.ofString "word") (y := Str.ofString "one") (obJ (obL w.params th tr tb he dt dr db dh stk frs up so ?l9 ?q0 ?q1 ?q2 ?q3 z f b u top kd' kr kb kh bt a0 ta ?som ?sn9 ?w0 ?w1 ?w2 ?w3) (.int 0 (kb 16)) (.int 0 (kd' 1)) (.int 0 (kr 1)) (.int 0 (kh 1)) (a5.fmod (10 ^ Int.toNat 12))) rfl ?jl F9 N9 S9 ?jj ?jm ?turn ?done)
  case jj => exact rfl
  case jl => k_extra "nt_mem"
  case jm => exact obJ_mem fun _ _ _ _ => .head _
  case turn =>
    intro i v nx h g' d' tk' os' I o u hv hJ F N S
    refine ob_data (w := w) (loose := loose) (mean := mean) (mg := mg) (mb := mb) (gd := gd) e5 e5' hv hJ ?_
    intro p x dx C wd wt es n hve hp hx hso hwd c1 c2 c3 c4 hsome _ step txt
    obtain rfl := hve
    have hp1 := List.Mem.tail (I, o) hp
    have hso1 := List.Mem.tail (I, o) hso
    clear hJ
    k_with "setAttr ref" => ((open YesNtObE in skip); k_here; k_dflt (refine' ob_set c1 c2 c3 c4 hsome hx step ?k1 ?k2 ?k3 ?kS ?_; (case k1 => k_asm); (case k2 => k_asm); (case k3 => k_asm); (case kS => k_asm); k_whole); intro nx' es' n' h' tk' hg' hz' F' N' S'; (obtain ⟨z1', z2', z3', z4'⟩ := hz'); (have z1 := List.Mem.tail (I, o) z1'); (have z2 := List.Mem.tail (I, o) z2'); (have z3 := List.Mem.tail (I, o) z3'); (try k_sweep))
    k_with "call ref" => ((open YesNtObE in skip); k_here; (with_reducible show wpAny _ _ (call (Value.ref 721) _) _ _ _); k_dflt (refine' code_use (txt _ _ _ _ z1 z2 hg') ?kB ?kF ?kX ?kN ?kS ?kP ?kT ?kk ?kd ?ku ?_; k_extra "nt_use0"; k_whole); intro t9 h' tk' F' N' S'; (try k_sweep))
    k_with "binaryOp Add bytes bytes" => ((open YesNtObE in skip); k_here; (with_reducible show wpAny _ _ (binaryOp Operator.Add (Value.bytes (List.toArray wd) _) (Value.bytes _ _)) _ _ _); k_dflt (refine' sx_cat0 (b := [58, 32, 48, 120]) hwd ?sk1 ?_; (case sk1 => decide); k_whole); intro t' tk')
    k_with "binaryOp Add bytes bytes" => ((open YesNtObE in skip); k_here; (with_reducible show wpAny _ _ (binaryOp Operator.Add (Value.bytes _ _) (Value.bytes (List.toArray (hexB _ _)) _)) _ _ _); k_dflt (refine' sx_cat ?sk1 ?_; (case sk1 => (rw [List.length_append]; exact Nat.le_trans (Nat.add_le_add_right hwd _) (by decide))); k_whole); intro t' tk')
    k_extra "nt_go"
    exact sx_turnEndT (by k_asm) (by k_asm) (by k_asm) (fun z h1 h2 => by simp only [if_neg h1, if_neg h2]) z4'
  case done =>
    intro u nx h tk' hJ F N S
    obtain ⟨_, _, _, _, rfl⟩ := hJ
    k_with "execs cons" => ((open YesNtObE in skip); (with_reducible show wpAny _ _ (execs (PySem.Stmt.If _ _ _ _ :: _) _) _ _ _); refine Park.out ?_)
    k_extra "nt_go"
    refine Park.out ?_
    unfold Park
    k_dflt (refine' segk_use Z ?kB ?F1 ?kX ?kN ?kS ?kP ?kT ?kd ?ku ?kE ?R1)
    case F1 =>
      refine fr_put (fr_put (fr_put (by k_asm) ?_) ?_) ?_
      all_goals exact rfl
    k_extra "nt_seg"
    exact hret
  all_goals k_data
end
end NtMine

end
-- NtObC
section
theorem NtMine.InNtObC.YesNtObC.here : True := True.intro
open NtMine.InNtObC
open PySem PySem.W PySem.Calls PyProof.Rows
set_option Elab.async false
namespace NtMine
set_option maxRecDepth 100000
set_option pp.deepTerms false
set_option pp.maxSteps 3000
set_option rowWalk.seconds 200
section
variable {w : World} {loose : List Str} {mean : ExcName → Option Value} {mg mb : Str → Option Value} {gd : Option (List Code)}
set_option maxHeartbeats 4000000
theorem ob_c {so th tr tb he dt dr db dh stk frs up : Addr} {z : Int} {f b u top : Value} {kd' kr kb kh : Nat → Tok} {bt : Nat → Addr} {a0 a1 a2 a3 a4 a5 a6 a7 : Int} {t0 t1 t2 t3 t4 t5 t6 t7 ta : Tok} {more : List Value} {sn : Nat}
   (Z : SegK w loose mean mg mb gd 939 (Str.ofString "_law_objects_right") (tS 75) (.ref 938) (fun _ => []) ((tB 75).drop 4) 11 200
    (fun m₀ y => if y = Str.ofString "thread" then some (.ref tr) else if y = Str.ofString "thing" then some (.ref th) else if y = Str.ofString "table" then some (.ref tb) else if y = Str.ofString "helper" then some (.ref he) else if y = Str.ofString "some" then some (.ref so) else m₀ y)
    (fun _ => (th, instObj 523 dt) :: (dt, datN w.params kd' (.int 0 (kd' 1)) (.int a0 ta) .none (.ref tb)) :: (tr, instObj 677 dr) :: (dr, thrE w.params kr (.int 0 (kr 1)) stk top frs up (.ref tb)) :: (tb, instObj 408 db) :: (db, tabD w.params kb bt (.int 0 (kb 16))) ::
      (he, instObj 504 dh) :: (dh, pyN w.params kh (.int 0 (kh 1)) z f b u (.ref tb)) :: (so, listOf (someL a0 a1 a2 a3 a4 a5 a6 a7 t0 t1 t2 t3 t4 t5 t6 t7 more).toArray sn) :: [])
    (fun K => K (.bool true) ((so, listOf (someL a0 a1 a2 a3 a4 a5 a6 a7 t0 t1 t2 t3 t4 t5 t6 t7 more).toArray sn) :: []))) :
   SegK w loose mean mg mb gd 939 (Str.ofString "_law_objects_right") (tS 75) (.ref 938) (fun _ => []) ((tB 75).drop 3) 11 200
    (fun m₀ y => if y = Str.ofString "thread" then some (.ref tr) else if y = Str.ofString "thing" then some (.ref th) else if y = Str.ofString "table" then some (.ref tb) else if y = Str.ofString "helper" then some (.ref he) else if y = Str.ofString "some" then some (.ref so) else m₀ y)
    (fun _ => (th, instObj 523 dt) :: (dt, datN w.params kd' (.int 0 (kd' 1)) (.int a0 ta) .none (.ref tb)) :: (tr, instObj 677 dr) :: (dr, thrE w.params kr (.int 0 (kr 1)) stk top frs up (.ref tb)) :: (tb, instObj 408 db) :: (db, tabD w.params kb bt (.int 0 (kb 16))) ::
      (he, instObj 504 dh) :: (dh, pyN w.params kh (.int 0 (kh 1)) z f b u (.ref tb)) :: (so, listOf (someL a0 a1 a2 a3 a4 a5 a6 a7 t0 t1 t2 t3 t4 t5 t6 t7 more).toArray sn) :: [])
    (fun K => K (.bool true) ((so, listOf (someL a0 a1 a2 a3 a4 a5 a6 a7 t0 t1 t2 t3 t4 t5 t6 t7 more).toArray sn) :: [])) := by
  intro dp un outer A₀ base h₀ L m₀ s Q E B F X N S T hd hu hE hret
  refine execs_as rfl ?_
  k_with "pyIter ref" => ((open YesNtObC in skip); refine Park.out ?_)
  k_with "call ref" => ((open YesNtObC in skip); k_here; (with_reducible show wpAny _ _ (call (Value.ref 742) [Value.none]) _ _ _); k_dflt (refine' code_use (env_none ) ?kB ?kF ?kX ?kN ?kS ?kP ?kT ?kk ?kd ?ku ?_; k_extra "nt_use0";  k_whole); intro h' tk' F' N' S'; (try k_sweep))
  k_with "call ref" => ((open YesNtObC in skip); k_here; (with_reducible show wpAny _ _ (call (Value.ref 742) [Value.int _ _]) _ _ _); k_dflt (refine' code_use (env_int ) ?kB ?kF ?kX ?kN ?kS ?kP ?kT ?kk ?kd ?ku ?_; k_extra "nt_use0";  k_whole); intro h' tk' F' N' S'; (try k_sweep))
  k_with "call ref" => ((open YesNtObC in skip); k_here; (with_reducible show wpAny _ _ (call (Value.ref 742) [Value.bytes _ _]) _ _ _); k_dflt (refine' code_use (env_byt ) ?kB ?kF ?kX ?kN ?kS ?kP ?kT ?kk ?kd ?ku ?_; k_extra "nt_use0";  k_whole); intro h' tk' F' N' S'; (try k_sweep))
  k_with "call ref" => ((open YesNtObC in skip); k_here; (with_reducible show wpAny _ _ (call (Value.ref 742) [Value.bool _]) _ _ _); k_dflt (refine' code_use (env_boo ) ?kB ?kF ?kX ?kN ?kS ?kP ?kT ?kk ?kd ?ku ?_; k_extra "nt_use0";  k_whole); intro h' tk' F' N' S'; (try k_sweep))
  k_with "call ref" => ((open YesNtObC in skip); k_here; (with_reducible show wpAny _ _ (call (Value.ref 742) [Value.ref tb]) _ _ _); k_dflt (refine' code_use (env_tab ?va0 ?va1) ?kB ?kF ?kX ?kN ?kS ?kP ?kT ?kk ?kd ?ku ?_; k_extra "nt_use0"; (case va0 => k_extra "nt_mem"); (case va1 => k_extra "nt_mem"); k_whole); intro h' tk' F' N' S'; (try k_sweep))
  k_with "call ref" => ((open YesNtObC in skip); k_here; (with_reducible show wpAny _ _ (call (Value.ref 749) [Value.none, _]) _ _ _); k_dflt (refine' code_use (set_none ) ?kB ?kF ?kX ?kN ?kS ?kP ?kT ?kk ?kd ?ku ?_; k_extra "nt_use0";  k_whole); intro h' tk' F' N' S'; (try k_sweep))
  k_with "call ref" => ((open YesNtObC in skip); k_here; (with_reducible show wpAny _ _ (call (Value.ref 749) [Value.int _ _, _]) _ _ _); k_dflt (refine' code_use (set_int ) ?kB ?kF ?kX ?kN ?kS ?kP ?kT ?kk ?kd ?ku ?_; k_extra "nt_use0";  k_whole); intro h' tk' F' N' S'; (try k_sweep))
  k_with "call ref" => ((open YesNtObC in skip); k_here; (with_reducible show wpAny _ _ (call (Value.ref 749) [Value.bytes _ _, _]) _ _ _); k_dflt (refine' code_use (set_byt ) ?kB ?kF ?kX ?kN ?kS ?kP ?kT ?kk ?kd ?ku ?_; k_extra "nt_use0";  k_whole); intro h' tk' F' N' S'; (try k_sweep))
  k_with "call ref" => ((open YesNtObC in skip); k_here; (with_reducible show wpAny _ _ (call (Value.ref 749) [Value.bool _, _]) _ _ _); k_dflt (refine' code_use (set_boo ) ?kB ?kF ?kX ?kN ?kS ?kP ?kT ?kk ?kd ?ku ?_; k_extra "nt_use0";  k_whole); intro h' tk' F' N' S'; (try k_sweep))
  k_with "call ref" => ((open YesNtObC in skip); k_here; (with_reducible show wpAny _ _ (call (Value.ref 749) [Value.ref tb, _]) _ _ _); k_dflt (refine' code_use (set_tab ?va0 ?va1) ?kB ?kF ?kX ?kN ?kS ?kP ?kT ?kk ?kd ?ku ?_; k_extra "nt_use0"; (case va0 => k_extra "nt_mem"); (case va1 => k_extra "nt_mem"); k_whole); intro h' tk' F' N' S'; (try k_sweep))
  k_extra "nt_go"
  refine Park.out ?_
  unfold Park
  rename News _ _ _ _ => N9
  rename Sep _ => S9
  rename Fr _ _ _ _ => F9
  have hl9 := N9
  k_dflt (refine' sx_iterT (x := Str.ofString "one") (vs := [.ref tb, .none, .int 3 ?w3, .bytes [120].toArray ?w4, .bool true]) (nn := 0) (fun _ nx => nx = ?led) rfl ?jl F9 N9 S9 ?jj ?jm ?turn ?done)
  case jj => exact rfl
  case jl => k_extra "nt_mem"
  case jm => exact fun _ _ e => e ▸ .head _
  case turn =>
    intro i v nx h tk' I o hv hJ F N S
    subst hJ
    have hi : i < 5 := (List.getElem?_eq_some_iff.mp hv).1
    have hi4 : i = 0 ∨ i = 1 ∨ i = 2 ∨ i = 3 ∨ i = 4 := by omega
    rcases hi4 with rfl | rfl | rfl | rfl | rfl
    all_goals (obtain rfl := Option.some.inj hv; k_extra "nt_go")
    all_goals exact sx_turnEnd (by k_asm) (by k_asm) (by k_asm) (fun z h1 => by simp only [if_neg h1]) rfl
  case done =>
    intro u nx h tk' hJ F N S
    subst hJ
    k_with "execs cons" => ((open YesNtObC in skip); (with_reducible show wpAny _ _ (execs (PySem.Stmt.If _ _ _ _ :: _) _) _ _ _); refine Park.out ?_)
    k_extra "nt_go"
    refine Park.out ?_
    unfold Park
    k_dflt (refine' segk_use Z ?kB ?F1 ?kX ?kN ?kS ?kP ?kT ?kd ?ku ?kE ?R1)
    case F1 =>
      refine fr_put (fr_put (fr_put (fr_put (fr_put (by k_asm) ?_) ?_) ?_) ?_) ?_
      all_goals exact rfl
    k_extra "nt_seg"
    exact hret
  all_goals k_data
end
end NtMine

end
-- NtObB
section
theorem NtMine.InNtObB.YesNtObB.here : True := True.intro
open NtMine.InNtObB
open PySem PySem.W PySem.Calls PyProof.Rows
set_option Elab.async false
namespace NtMine
set_option maxRecDepth 100000
set_option pp.deepTerms false
set_option pp.maxSteps 3000
set_option rowWalk.seconds 200
noncomputable abbrev obM (P : Params) (th tr tb he dt dr db dh stk frs up so l lu dlu ul pr dpr : Addr) (z zl : Int) (f b top : Value) (u : Addr) (kd kr kb kh kl kp : Nat → Tok) (bt bp : Nat → Addr) (a0 : Int) (ta : Tok) (some : List Value) (sn : Nat) (e0 e1 e2 e3 : Value) : Led :=
  (l, tupOf [.ref th, .ref tr, .ref he, .ref lu] 0) :: (dlu, luaD P kl zl (.ref pr) (.ref ul) e3) :: (lu, instObj 456 dlu) :: (ul, listOf (List.toArray ([] : List Value)) 0) :: (dpr, proD P kp bp) :: (pr, instObj 794 dpr) ::
  (th, instObj 523 dt) :: (dt, datN P kd (.int 0 (kd 1)) (.int a0 ta) .none e0) :: (tr, instObj 677 dr) :: (dr, thrE P kr (.int 0 (kr 1)) stk top frs up e1) :: (tb, instObj 408 db) :: (db, tabD P kb bt (.int 0 (kb 16))) ::
  (he, instObj 504 dh) :: (dh, pyD P kh z f b (.ref u) e2) :: (so, listOf some.toArray sn) :: []
noncomputable abbrev obN (L : Value → Value → Value → Value → Led) (a b : Value) : Nat → Led → Prop
  | 0, nx => nx = L a a a a
  | 1, nx => nx = L b a a a
  | 2, nx => nx = L b b a a
  | 3, nx => nx = L b b b a
  | _, nx => nx = L b b b b
theorem obN_mem {L : Value → Value → Value → Value → Led} {a b : Value} {p : Addr × Obj} (h : ∀ a b c d, p ∈ L a b c d) : ∀ i nx, obN L a b i nx → p ∈ nx
  | 0, _, e => e ▸ h _ _ _ _
  | 1, _, e => e ▸ h _ _ _ _
  | 2, _, e => e ▸ h _ _ _ _
  | 3, _, e => e ▸ h _ _ _ _
  | _ + 4, _, e => e ▸ h _ _ _ _
section
variable {w : World} {loose : List Str} {mean : ExcName → Option Value} {mg mb : Str → Option Value} {gd : Option (List Code)}
set_option maxHeartbeats 4000000
theorem ob_b {so th tr tb he dt dr db dh stk frs up : Addr} {z : Int} {f b top : Value} {u : Addr} {kd' kr kb kh : Nat → Tok} {bt : Nat → Addr} {a0 a1 a2 a3 a4 a5 a6 a7 : Int} {t0 t1 t2 t3 t4 t5 t6 t7 ta : Tok} {more : List Value} {sn : Nat}
   (Z : SegK w loose mean mg mb gd 939 (Str.ofString "_law_objects_right") (tS 75) (.ref 938) (fun _ => []) ((tB 75).drop 3) 11 200
    (fun m₀ y => if y = Str.ofString "thread" then some (.ref tr) else if y = Str.ofString "thing" then some (.ref th) else if y = Str.ofString "table" then some (.ref tb) else if y = Str.ofString "helper" then some (.ref he) else if y = Str.ofString "some" then some (.ref so) else m₀ y)
    (fun _ => (th, instObj 523 dt) :: (dt, datN w.params kd' (.int 0 (kd' 1)) (.int a0 ta) .none (.ref tb)) :: (tr, instObj 677 dr) :: (dr, thrE w.params kr (.int 0 (kr 1)) stk top frs up (.ref tb)) :: (tb, instObj 408 db) :: (db, tabD w.params kb bt (.int 0 (kb 16))) ::
      (he, instObj 504 dh) :: (dh, pyN w.params kh (.int 0 (kh 1)) z f b (.ref u) (.ref tb)) :: (so, listOf (someL a0 a1 a2 a3 a4 a5 a6 a7 t0 t1 t2 t3 t4 t5 t6 t7 more).toArray sn) :: [])
    (fun K => K (.bool true) ((so, listOf (someL a0 a1 a2 a3 a4 a5 a6 a7 t0 t1 t2 t3 t4 t5 t6 t7 more).toArray sn) :: []))) :
   SegK w loose mean mg mb gd 939 (Str.ofString "_law_objects_right") (tS 75) (.ref 938) (fun _ => []) ((tB 75).drop 2) 11 200
    (fun m₀ y => if y = Str.ofString "thread" then some (.ref tr) else if y = Str.ofString "thing" then some (.ref th) else if y = Str.ofString "table" then some (.ref tb) else if y = Str.ofString "helper" then some (.ref he) else if y = Str.ofString "some" then some (.ref so) else m₀ y)
    (fun _ => (th, instObj 523 dt) :: (dt, datN w.params kd' (.int 0 (kd' 1)) (.int a0 ta) .none .none) :: (tr, instObj 677 dr) :: (dr, thrE w.params kr (.int 0 (kr 1)) stk top frs up .none) :: (tb, instObj 408 db) :: (db, tabD w.params kb bt (.int 0 (kb 16))) ::
      (he, instObj 504 dh) :: (dh, pyN w.params kh (.int 0 (kh 1)) z f b (.ref u) .none) :: (so, listOf (someL a0 a1 a2 a3 a4 a5 a6 a7 t0 t1 t2 t3 t4 t5 t6 t7 more).toArray sn) :: [])
    (fun K => K (.bool true) ((so, listOf (someL a0 a1 a2 a3 a4 a5 a6 a7 t0 t1 t2 t3 t4 t5 t6 t7 more).toArray sn) :: [])) := by
  intro dp un outer A₀ base h₀ L m₀ s Q E B F X N S T hd hu hE hret
  refine execs_as rfl ?_
  k_with "pyIter ref" => ((open YesNtObB in skip); refine Park.out ?_)
  k_with "compareOp NotEq ref ref" => ((open YesNtObB in skip); k_here; (with_reducible show wpAny _ _ (compareOp _ (Value.ref tb) (Value.ref tb)) _ _ _); k_dflt (refine' nt_neSelf ?yk1 ?yk2 ?yk3 ?yk4 ?yk5 ?yk6 ?yk7 ?_; (case yk2 => k_asm); (case yk3 => k_asm); (case yk4 => (refine' InstAt.of_news ?yN ?yh1 ?yh2; (case yN => k_asm); (case yh1 => k_extra "nt_mem"); (case yh2 => k_extra "nt_mem"))); (case yk5 => k_is); (case yk6 => k_is); (case yk7 => k_is); (case yk1 => ktr_units); k_whole))
  k_with "nt_envdat" => ((open YesNtObB in skip); k_dflt (refine' code_use (env_dat ?va1 ?va2 ?va3 ?va4) ?kB ?kF ?kX ?kN ?kS ?kP ?kT ?kk ?kd ?ku ?_; k_extra "nt_use0"; (case va1 => k_extra "nt_mem"); (case va2 => k_extra "nt_mem"); (case va3 => k_extra "nt_gets"); (case va4 => k_handed); k_whole))
  k_with "nt_setdat" => ((open YesNtObB in skip); k_dflt (refine' code_use (set_dat ?va1 ?va2) ?kB ?kF ?kX ?kN ?kS ?kP ?kT ?kk ?kd ?ku ?_; k_extra "nt_use0"; (case va1 => k_extra "nt_mem"); (case va2 => k_extra "nt_put"); k_whole))
  k_with "nt_envthr" => ((open YesNtObB in skip); k_dflt (refine' code_use (env_thr ?va1 ?va2 ?va3 ?va4) ?kB ?kF ?kX ?kN ?kS ?kP ?kT ?kk ?kd ?ku ?_; k_extra "nt_use0"; (case va1 => k_extra "nt_mem"); (case va2 => k_extra "nt_mem"); (case va3 => k_extra "nt_gets"); (case va4 => k_handed); k_whole))
  k_with "nt_setthr" => ((open YesNtObB in skip); k_dflt (refine' code_use (set_thr ?va1 ?va2) ?kB ?kF ?kX ?kN ?kS ?kP ?kT ?kk ?kd ?ku ?_; k_extra "nt_use0"; (case va1 => k_extra "nt_mem"); (case va2 => k_extra "nt_put"); k_whole))
  k_with "nt_envpy" => ((open YesNtObB in skip); k_dflt (refine' code_use (env_py ?va1 ?va2 ?va3 ?va4) ?kB ?kF ?kX ?kN ?kS ?kP ?kT ?kk ?kd ?ku ?_; k_extra "nt_use0"; (case va1 => k_extra "nt_mem"); (case va2 => k_extra "nt_mem"); (case va3 => k_extra "nt_gets"); (case va4 => k_handed); k_whole))
  k_with "nt_setpy" => ((open YesNtObB in skip); k_dflt (refine' code_use (set_py ?va1 ?va2) ?kB ?kF ?kX ?kN ?kS ?kP ?kT ?kk ?kd ?ku ?_; k_extra "nt_use0"; (case va1 => k_extra "nt_mem"); (case va2 => k_extra "nt_put"); k_whole))
  k_with "nt_envlua" => ((open YesNtObB in skip); k_dflt (refine' code_use (env_lua ?va1 ?va2 ?va3 ?va4) ?kB ?kF ?kX ?kN ?kS ?kP ?kT ?kk ?kd ?ku ?_; k_extra "nt_use0"; (case va1 => k_extra "nt_mem"); (case va2 => k_extra "nt_mem"); (case va3 => k_extra "nt_gets"); (case va4 => k_handed); k_whole))
  k_with "nt_setlua" => ((open YesNtObB in skip); k_dflt (refine' code_use (set_lua ?va1 ?va2) ?kB ?kF ?kX ?kN ?kS ?kP ?kT ?kk ?kd ?ku ?_; k_extra "nt_use0"; (case va1 => k_extra "nt_mem"); (case va2 => k_extra "nt_put"); k_whole))
  k_with "call ref" => ((open YesNtObB in skip); k_here; (with_reducible show wpAny _ _ (call (Value.ref 742) [Value.ref _]) _ _ _); (first | k_extra "nt_envdat" | k_extra "nt_envthr" | k_extra "nt_envpy" | k_extra "nt_envlua"); intro h' tk' F' N' S'; (try k_sweep))
  k_with "call ref" => ((open YesNtObB in skip); k_here; (with_reducible show wpAny _ _ (call (Value.ref 749) [Value.ref _, _]) _ _ _); (first | k_extra "nt_setdat" | k_extra "nt_setthr" | k_extra "nt_setpy" | k_extra "nt_setlua"); intro h' tk' F' N' S'; (try k_sweep))
  k_extra "nt_go"
  refine Park.out ?_
  unfold Park
  rename News _ _ _ _ => N9
  rename Sep _ => S9
  rename Fr _ _ _ _ => F9
  k_dflt (refine' sx_iterT (x := Str.ofString "one") (obN (obM w.params th tr tb he dt dr db dh stk frs up so ?l9 ?lu ?dlu ?ul ?pr ?dpr z ?zl f b top u kd' kr kb kh ?kl ?kp bt ?bp a0 ta ?som ?sn9) .none (.ref tb)) rfl ?jl F9 N9 S9 ?jj ?jm ?turn ?done)
  case jj => exact rfl
  case jl => k_extra "nt_mem"
  case jm => exact obN_mem fun _ _ _ _ => .head _
  case turn =>
    intro i v nx h tk' I o hv hJ F N S
    have hi : i < 4 := (List.getElem?_eq_some_iff.mp hv).1
    have hi4 : i = 0 ∨ i = 1 ∨ i = 2 ∨ i = 3 := by omega
    rcases hi4 with rfl | rfl | rfl | rfl
    all_goals (obtain rfl := hJ; obtain rfl := Option.some.inj hv; k_extra "nt_go")
    all_goals exact sx_turnEnd (by k_asm) (by k_asm) (by k_asm) (fun z h1 => by simp only [if_neg h1]) rfl
  case done =>
    intro u nx h tk' hJ F N S
    obtain rfl := hJ
    k_with "execs cons" => ((open YesNtObB in skip); (with_reducible show wpAny _ _ (execs (PySem.Stmt.For _ _ _ _ _ :: _) _) _ _ _); refine Park.out ?_)
    k_extra "nt_go"
    refine Park.out ?_
    unfold Park
    k_dflt (refine' segk_use Z ?kB ?F1 ?kX ?kN ?kS ?kP ?kT ?kd ?ku ?kE ?R1)
    case F1 =>
      refine fr_put (fr_put (fr_put (fr_put (fr_put (by k_asm) ?_) ?_) ?_) ?_) ?_
      all_goals exact rfl
    k_extra "nt_seg"
    exact hret
  all_goals k_data
end
end NtMine

end
-- NtObA
section
theorem NtMine.InNtObA.YesNtObA.here : True := True.intro
open NtMine.InNtObA
open PySem PySem.W PySem.Calls PyProof.Rows
set_option Elab.async false
namespace NtMine
set_option maxRecDepth 100000
set_option pp.deepTerms false
set_option pp.maxSteps 3000
set_option rowWalk.seconds 200
section
variable {w : World} {loose : List Str} {mean : ExcName → Option Value} {mg mb : Str → Option Value} {gd : Option (List Code)}
set_option maxHeartbeats 4000000
theorem ob_a {so : Addr} {a0 a1 a2 a3 a4 a5 a6 a7 : Int} {t0 t1 t2 t3 t4 t5 t6 t7 : Tok} {more : List Value} {sn : Nat}
   (Z : ∀ {th tr tb he dt dr db dh stk frs up : Addr} {z : Int} {f b top : Value} {u : Addr} {kd' kr kb kh : Nat → Tok} {bt : Nat → Addr} {ta : Tok}, SegK w loose mean mg mb gd 939 (Str.ofString "_law_objects_right") (tS 75) (.ref 938) (fun _ => []) ((tB 75).drop 2) 11 200
    (fun m₀ y => if y = Str.ofString "thread" then some (.ref tr) else if y = Str.ofString "thing" then some (.ref th) else if y = Str.ofString "table" then some (.ref tb) else if y = Str.ofString "helper" then some (.ref he) else if y = Str.ofString "some" then some (.ref so) else m₀ y)
    (fun _ => (th, instObj 523 dt) :: (dt, datN w.params kd' (.int 0 (kd' 1)) (.int a0 ta) .none .none) :: (tr, instObj 677 dr) :: (dr, thrE w.params kr (.int 0 (kr 1)) stk top frs up .none) :: (tb, instObj 408 db) :: (db, tabD w.params kb bt (.int 0 (kb 16))) ::
      (he, instObj 504 dh) :: (dh, pyN w.params kh (.int 0 (kh 1)) z f b (.ref u) .none) :: (so, listOf (someL a0 a1 a2 a3 a4 a5 a6 a7 t0 t1 t2 t3 t4 t5 t6 t7 more).toArray sn) :: [])
    (fun K => K (.bool true) ((so, listOf (someL a0 a1 a2 a3 a4 a5 a6 a7 t0 t1 t2 t3 t4 t5 t6 t7 more).toArray sn) :: []))) :
   CodeK w loose mean mg mb gd 939 [.ref so] 20 400 ((so, listOf (someL a0 a1 a2 a3 a4 a5 a6 a7 t0 t1 t2 t3 t4 t5 t6 t7 more).toArray sn) :: []) (fun K => K (.bool true) ((so, listOf (someL a0 a1 a2 a3 a4 a5 a6 a7 t0 t1 t2 t3 t4 t5 t6 t7 more).toArray sn) :: [])) := by
  refine' code_of_body (binds := [(Str.ofString "some", .ref so)]) (fun _ _ h H => h _ _ H) ?ho ?hcd ?hbind ?hloc ?hb ?c1 ?c2 ?c3 ?c4 ?_
  k_extra "nt_body"
  intro dp un outer A₀ base h₀ L s Q E B F X N S T hd hu hE hret
  k_with "call ref" => ((open YesNtObA in skip); k_here; (with_reducible show wpAny _ _ (call (Value.ref 523) _) _ _ _); k_dflt (refine' make_use mk_dat ?kB ?kF ?kX ?kN ?kS ?kP ?kT ?kk ?kd ?ku ?_; k_extra "nt_use0"; k_whole); intro x' dx' kt' h' tk' F' N' S'; (try k_sweep))
  k_with "call ref" => ((open YesNtObA in skip); k_here; (with_reducible show wpAny _ _ (call (Value.ref 677) _) _ _ _); k_dflt (refine' make_use mk_thr ?kB ?kF ?kX ?kN ?kS ?kP ?kT ?kk ?kd ?ku ?_; k_extra "nt_use0"; k_whole); intro x' dx' kt' stk' frs' up' c' c1' c2' h' tk' F' N' S'; (try k_sweep))
  k_with "call ref" => ((open YesNtObA in skip); k_here; (with_reducible show wpAny _ _ (call (Value.ref 408) _) _ _ _); k_dflt (refine' make_use mk_tab ?kB ?kF ?kX ?kN ?kS ?kP ?kT ?kk ?kd ?ku ?_; k_extra "nt_use0"; k_whole); intro x' dx' kt' bt' h' tk' F' N' S'; (try k_sweep))
  k_with "execs cons" => ((open YesNtObA in skip); (with_reducible show wpAny _ _ (execs (PySem.Stmt.For _ _ _ _ _ :: _) _) _ _ _); refine Park.out ?_)
  k_extra "nt_go"
  refine Park.out ?_
  unfold Park
  k_dflt (refine' segk_use Z ?kB ?F1 ?kX ?kN ?kS ?kP ?kT ?kd ?ku ?kE ?R1)
  case F1 =>
    refine fr_put (fr_put (fr_put (fr_put (fr_put (by k_asm) ?_) ?_) ?_) ?_) ?_
    all_goals exact rfl
  k_extra "nt_seg"
  exact hret
end
/-- objects_right answers True -/
theorem objects_says {w : World} {loose : List Str} {mean : ExcName → Option Value} {mg mb : Str → Option Value} {gd : Option (List Code)} {so : Addr} {a0 a1 a2 a3 a4 a5 a6 a7 : Int} {t0 t1 t2 t3 t4 t5 t6 t7 : Tok} {more : List Value} {sn : Nat} (hp5 : 0 ≤ a5) (hp6 : 0 ≤ a6) (hp7 : 0 ≤ a7) :
   CodeK w loose mean mg mb gd 939 [.ref so] 20 400 ((so, listOf (someL a0 a1 a2 a3 a4 a5 a6 a7 t0 t1 t2 t3 t4 t5 t6 t7 more).toArray sn) :: []) (fun K => K (.bool true) ((so, listOf (someL a0 a1 a2 a3 a4 a5 a6 a7 t0 t1 t2 t3 t4 t5 t6 t7 more).toArray sn) :: [])) :=
  ob_a (ob_b (ob_c (ob_d (ob_e hp5 (ob_f hp6 hp7)))))
end NtMine

end
-- NtThrS
section
theorem NtMine.InNtThrS.YesNtThrS.here : True := True.intro
open NtMine.InNtThrS
open PySem PySem.W PySem.Calls PyProof.Rows
set_option Elab.async false
namespace NtMine
set_option maxRecDepth 100000
set_option pp.deepTerms false
set_option pp.maxSteps 3000
section
variable {w : World} {loose : List Str} {mean : ExcName → Option Value} {mg mb : Str → Option Value} {gd : Option (List Code)}
/-- a contract of the old kind, as one of the new -/
theorem make_of_says {f : Addr} {vs : List Value} {kd ku : Nat} {news : Led} {Post : Value → Led → Prop} {R : (Value → Led → Prop) → Prop} (C : Sep news → Says w loose mean mg mb f vs kd ku news Post)
    (hk : ∀ K r nx, Sep news → Post r nx → R K → Sep nx ∧ K r nx) : MakeK w loose mean mg mb gd f vs kd ku news R := fun dp un cn cs a ccd cl outer A₀ base h₀ L m s Q E B F X N S T hkk hd hu hret =>
  C S dp un gd cn cs a ccd cl outer A₀ base h₀ L m s Q E B F X N T hkk hd hu fun r nx h' tk' F' N' P => by
    obtain ⟨S', k⟩ := hk _ r nx S P hret
    exact k h' tk' F' N' S'
theorem sep_thr {P : Params} {kt : Nat → Tok} {x dx stk : Addr} {top : Int} {tt : Tok} {frs up : Addr} {vs : List Value} {n : Nat} {rest : Led} (S : Sep (thrL P kt x dx stk top tt frs up vs n rest)) : (NeA x dx ∧ NeA x stk ∧ NeA dx stk) ∧ OwnOff rest [x, dx, stk] := by
  obtain ⟨s1, s2, s3, _⟩ := S
  refine ⟨⟨(s1 _ (.head _)).symm, (s1 _ (.tail _ (.head _))).symm, (s2 _ (.head _)).symm⟩, fun p hp b hb => ?_⟩
  rcases List.mem_cons.mp hb with rfl | hb
  · exact s1 p (.tail _ (.tail _ hp))
  · rcases List.mem_cons.mp hb with rfl | hb
    · exact s2 p (.tail _ hp)
    · rw [List.mem_singleton.mp hb]
      exact s3 p hp
theorem push_s {kt : Nat → Tok} {x dx stk : Addr} {top : Int} {tt : Tok} {frs up : Addr} {vs : List Value} {n : Nat} {rest : Led} {v : Value} (hb : vs.length ≤ 900 ∧ 0 ≤ top ∧ top ≤ vs.length ∧ top ≤ 190) :
   MakeK w loose mean mg mb gd 611 [.ref x, v] 2 24 (thrL w.params kt x dx stk top tt frs up vs n rest) (fun K => ∀ n' tt', K .none (thrL w.params kt x dx stk (top + 1) tt' frs up ((grown vs (top + 1)).set top.toNat v) n' rest)) :=
  make_of_says (fun S => push_says (sep_thr S).1 (sep_thr S).2 hb) fun K r nx S P h => by
    obtain ⟨n', tt', rfl, rfl⟩ := P
    exact ⟨sep_keys (by exact rfl) S, h n' tt'⟩
theorem frame_s {kt : Nat → Tok} {x dx stk : Addr} {top : Int} {tt : Tok} {frs up : Addr} {vs fvs : List Value} {n nf : Nat} {rest : Led} {qa qb qc qd : Int} {ta tb tc td : Tok} (hb : vs.length ≤ 900 ∧ 0 ≤ qc ∧ qc ≤ 190 ∧ fvs.length ≤ 900) :
   MakeK w loose mean mg mb gd 653 [.ref x, .int qa ta, .int qb tb, .int qc tc, .int qd td] 3 32 (thrL w.params kt x dx stk top tt frs up vs n ((frs, listOf fvs.toArray nf) :: rest))
    (fun K => ∀ n' a d t0 t1 t2 t3 t4 t5 t6 t7 t8 t9 t10 t11 t12, K (.ref a) (thrL w.params kt x dx stk top tt frs up (grown vs qc) n' ((frs, listOf (fvs ++ [Value.ref a]).toArray (nf + 1)) :: (a, instObj 556 d) :: (d, infT w.params t0 t1 t2 t3 t4 t5 t6 t7 t8 t9 t10 t11 t12 qa qb qc qd) :: rest))) := by
  refine make_of_says (fun S => push_frame_says ?_ ?_ hb) fun K r nx S P h => ?_
  · obtain ⟨⟨a1, a2, a3⟩, o⟩ := sep_thr S
    exact ⟨a1, a2, a3, o _ (.head _) x (.head _), o _ (.head _) dx (.tail _ (.head _)), o _ (.head _) stk (.tail _ (.tail _ (.head _)))⟩
  · obtain ⟨_, o⟩ := sep_thr S
    obtain ⟨_, _, _, s4, _⟩ := S
    intro p hp b hb
    rcases List.mem_cons.mp hb with rfl | hb
    · exact o p (.tail _ hp) _ (.head _)
    · rcases List.mem_cons.mp hb with rfl | hb
      · exact o p (.tail _ hp) _ (.tail _ (.head _))
      · rcases List.mem_cons.mp hb with rfl | hb
        · exact o p (.tail _ hp) _ (.tail _ (.tail _ (.head _)))
        · rw [List.mem_singleton.mp hb]
          exact s4 p hp
  · obtain ⟨n', a, d, t0, t1, t2, t3, t4, t5, t6, t7, t8, t9, t10, t11, t12, rfl, rfl, l1, l2, l3, l4, l5, l6⟩ := P
    refine ⟨?_, h n' a d t0 t1 t2 t3 t4 t5 t6 t7 t8 t9 t10 t11 t12⟩
    have hl : ∀ p ∈ ((x, instObj 677 dx) :: (dx, thrD w.params kt stk top tt frs up) :: (stk, listOf (grown vs qc).toArray n') :: (frs, listOf (fvs ++ [Value.ref a]).toArray (nf + 1)) :: rest : Led), p.1 < d := by
      refine List.forall_mem_cons.mpr ⟨l1, List.forall_mem_cons.mpr ⟨l2, List.forall_mem_cons.mpr ⟨l3, List.forall_mem_cons.mpr ⟨l4, ktn_ltOf l5⟩⟩⟩⟩
    have S1 : Sep ((x, instObj 677 dx) :: (dx, thrD w.params kt stk top tt frs up) :: (stk, listOf (grown vs qc).toArray n') :: (frs, listOf (fvs ++ [Value.ref a]).toArray (nf + 1)) :: rest) := sep_keys (by exact rfl) S
    have S2 := sep_new2 (a := a) (b := d) (o := instObj 556 d) (o' := infT w.params t0 t1 t2 t3 t4 t5 t6 t7 t8 t9 t10 t11 t12 qa qb qc qd) hl l6 S1
    exact arr_sep S2 (.cons (.tail (.tail .head)) (.cons (.tail (.tail .head)) (.cons (.tail (.tail .head)) (.cons (.tail (.tail .head)) .refl))))
set_option maxHeartbeats 4000000
theorem ground_s {kt : Nat → Tok} {x dx stk : Addr} {tt : Tok} {frs up : Addr} {n nf : Nat} {rest : Led} :
   CodeK w loose mean mg mb gd 597 [.ref x] 6 60 (thrL w.params kt x dx stk 0 tt frs up (List.replicate 20 .none) n ((frs, listOf (List.toArray ([] : List Value)) nf) :: rest))
    (fun K => ∀ n' a d t0 t1 t2 t3 t4 t5 t6 t7 t8 t9 t10 t11 t12 tt' vs', List.length vs' = 21 → K (.ref a) (thrL w.params kt x dx stk 1 tt' frs up vs' n' ((frs, listOf [Value.ref a].toArray (nf + 1)) :: (a, instObj 556 d) :: (d, infT w.params t0 t1 t2 t3 t4 t5 t6 t7 t8 t9 t10 t11 t12 0 1 21 (-1)) :: rest))) := by
  refine' code_of_body (binds := [(Str.ofString "self", .ref x)]) (fun _ _ h H n' a d t0 t1 t2 t3 t4 t5 t6 t7 t8 t9 t10 t11 t12 tt' vs' hl => h _ _ (H n' a d t0 t1 t2 t3 t4 t5 t6 t7 t8 t9 t10 t11 t12 tt' vs' hl)) ?ho ?hcd ?hbind ?hloc ?hb ?c1 ?c2 ?c3 ?c4 ?_
  k_extra "nt_body"
  intro dp un outer A₀ base h₀ L s Q E B F X N S T hd hu hE hret
  k_with "call ref" => ((open YesNtThrS in skip); k_here; (with_reducible show wpAny _ _ (call (Value.ref 611) _) _ _ _); k_dflt (refine' make_use (push_s ?pb) ?kB ?kF ?kX ?kN ?kS ?kP ?kT ?kk ?kd ?ku ?_; k_extra "nt_use0"; (case pb => decide); k_whole); intro n1' tt1' h' tk' F' N' S'; (try k_sweep))
  k_with "call ref" => ((open YesNtThrS in skip); k_here; (with_reducible show wpAny _ _ (call (Value.ref 653) _) _ _ _); k_dflt (refine' make_use (frame_s ?pb) ?kB ?kF ?kX ?kN ?kS ?kP ?kT ?kk ?kd ?ku ?_; k_extra "nt_use0"; (case pb => decide); k_whole); intro n2' a2' d2' u0 u1 u2 u3 u4 u5 u6 u7 u8 u9 u10 u11 u12 h' tk' F' N' S'; (try k_sweep))
  k_extra "nt_go"
  refine hret _ _ _ _ _ _ _ _ _ _ _ _ _ _ _ _ _ _ ?hl _ _ _ _ rfl (by k_asm) (by k_asm) (by k_asm)
  exact rfl
theorem is_lua_s {C c dc x dx stk y dy : Addr} {ec ex ey : List DictEntry} {nc nx ny n : Nat} {k : Int} {t : Tok} {vs : List Value} {news : Led} (hC : C = 456 ∨ C = 504) (h1 : (c, instObj 556 dc) ∈ news) (h2 : (dc, dictOf ec nc) ∈ news) (e1 : gets "func" ec (.int k t)) (h3 : (x, instObj 677 dx) ∈ news) (h4 : (dx, dictOf ex nx) ∈ news) (e2 : gets "stack" ex (.ref stk)) (h5 : (stk, listOf vs.toArray n) ∈ news)
   (hk : 0 ≤ k) (hk2 : k < 1000) (hv : vs[k.toNat]? = some (.ref y)) (h6 : (y, instObj C dy) ∈ news) (h7 : (dy, dictOf ey ny) ∈ news) : CodeK w loose mean mg mb gd 546 [.ref c, .ref x] 1 20 news (fun K => K (.bool (C == 456)) news) := by
  refine' code_of_body (binds := [(Str.ofString "self", .ref c), (Str.ofString "thread", .ref x)]) (fun _ _ h H => h _ _ H) ?ho ?hcd ?hbind ?hloc ?hb ?c1 ?c2 ?c3 ?c4 ?_
  k_extra "nt_body"
  intro dp un outer A₀ base h₀ L s Q E B F X N S T hd hu hE hret
  rcases hC with rfl | rfl
  all_goals (k_extra "nt_go"; exact hret _ _ _ _ rfl (by k_asm) (by k_asm) (by k_asm))
theorem funcat_s {c dc x dx stk : Addr} {ec ex : List DictEntry} {nc nx n : Nat} {k : Int} {t : Tok} {vs : List Value} {v : Value} {news : Led} (h1 : (c, instObj 556 dc) ∈ news) (h2 : (dc, dictOf ec nc) ∈ news) (e1 : gets "func" ec (.int k t)) (h3 : (x, instObj 677 dx) ∈ news) (h4 : (dx, dictOf ex nx) ∈ news) (e2 : gets "stack" ex (.ref stk)) (h5 : (stk, listOf vs.toArray n) ∈ news)
   (hk : 0 ≤ k) (hk2 : k < 1000) (hv : vs[k.toNat]? = some v) : CodeK w loose mean mg mb gd 667 [.ref x, .ref c] 1 20 news (fun K => K v news) := by
  refine' code_of_body (binds := [(Str.ofString "self", .ref x), (Str.ofString "frame", .ref c)]) (fun _ _ h H => h _ _ H) ?ho ?hcd ?hbind ?hloc ?hb ?c1 ?c2 ?c3 ?c4 ?_
  k_extra "nt_body"
  intro dp un outer A₀ base h₀ L s Q E B F X N S T hd hu hE hret
  k_extra "nt_go"
  exact hret _ _ _ _ rfl (by k_asm) (by k_asm) (by k_asm)
theorem copied_s {c dc : Addr} {kt : Nat → Tok} {a b c' d p q r : Value} {news : Led} (g1 : handedIn a = true) (g2 : handedIn b = true) (g3 : handedIn c' = true) (g4 : handedIn d = true) (g5 : handedIn p = true) (g6 : handedIn q = true) (g7 : handedIn r = true) (h1 : (c, instObj 556 dc) ∈ news) (h2 : (dc, cinD w.params kt a b c' d p q r) ∈ news) :
   CodeK w loose mean mg mb gd 553 [.ref c] 4 30 news (fun K => ∀ x dx kt', K (.ref x) ((x, instObj 556 dx) :: (dx, cinD w.params kt' a b c' d p q r) :: news)) := by
  refine' code_of_body (binds := [(Str.ofString "self", .ref c)]) (fun _ _ h H x dx kt => h _ _ (H x dx kt)) ?ho ?hcd ?hbind ?hloc ?hb ?c1 ?c2 ?c3 ?c4 ?_
  k_extra "nt_body"
  intro dp un outer A₀ base h₀ L s Q E B F X N S T hd hu hE hret
  k_with "call ref" => ((open YesNtThrS in skip); k_here; (with_reducible show wpAny _ _ (call (Value.ref 556) _) _ _ _); k_dflt (refine' make_use mk_cin ?kB ?kF ?kX ?kN ?kS ?kP ?kT ?kk ?kd ?ku ?_; k_extra "nt_use0"; k_whole); intro x' dx' kt' h' tk' F' N' S'; (try k_sweep))
  k_extra "nt_go"
  exact hret _ _ _ _ _ _ _ rfl (by k_asm) (by k_asm) (by k_asm)
theorem next_s {x dx : Addr} {kt : Nat → Tok} {bt : Nat → Addr} {k : Int} {rest : Led} (h1 : (x, instObj 703 dx) ∈ rest) (hk : 0 ≤ k ∧ k < 100) :
   CodeK w loose mean mg mb gd 700 [.ref x] 1 20 ((dx, gloD w.params kt bt k) :: rest) (fun K => ∀ t kt', K (.int (k + 1) t) ((dx, gloD w.params kt' bt (k + 1)) :: rest)) := by
  refine' code_of_body (binds := [(Str.ofString "self", .ref x)]) (fun _ _ h H t kt => h _ _ (H t kt)) ?ho ?hcd ?hbind ?hloc ?hb ?c1 ?c2 ?c3 ?c4 ?_
  k_extra "nt_body"
  intro dp un outer A₀ base h₀ L s Q E B F X N S T hd hu hE hret
  k_extra "nt_go"
  exact hret _ (tks [kt 0, kt 1, kt 2, kt 3, kt 4, kt 5, kt 6, kt 7, kt 8, kt 9, kt 10, _]) _ _ _ _ rfl (by k_asm) (by k_asm) (by k_asm)
end
end NtMine

end
-- NtClD
section
theorem NtMine.InNtClD.YesNtClD.here : True := True.intro
open NtMine.InNtClD
open PySem PySem.W PySem.Calls PyProof.Rows
set_option Elab.async false
namespace NtMine
set_option maxRecDepth 100000
set_option pp.deepTerms false
set_option pp.maxSteps 3000
set_option rowWalk.seconds 200
section
variable {w : World} {loose : List Str} {mean : ExcName → Option Value} {mg mb : Str → Option Value}
set_option maxHeartbeats 4000000
theorem sx_endA {h₀ hp : Heap} {L : Addr} {m : Str → Option Value} {g : Array GenState} {d : Drawn} {tk : Nat} {os : OsState} {S' : Led → Prop} {all news : Led} {I C D : Addr} {oI oC oD : Obj} {rest : Value → Led → Prop} {y : Value} {hp' : Heap} {tk' : Nat} (F : Fr h₀ L hp' m) (N : News h₀ L hp' all) (S : Sep all) (P : Arr all ((I, oI) :: (C, oC) :: (D, oD) :: news)) (hS : S' news) (r : Sep news → rest y news) :
    LCg.CompEnd h₀ L m ⟨hp, g, d, tk, os⟩ I oI C oC D oD S' rest y ⟨hp', g, d, tk', os⟩ := sx_end F (arr_news N P) (arr_sep S P) hS r
/-- statements 15 to 17 -/
theorem cl_d {so clo cd hel hx : Addr} {os oc : Obj} {es es2 : List DictEntry} {n1 n2 : Nat} (hoc : oc.data = .cell none) :
   SegK w loose mean mg mb (some []) 920 (Str.ofString "_law_call_right") (tS 72) (.ref 919) (cellsX (tS 72)) ((tB 72).drop 15) 12 200
    (fun m₀ y => if y = Str.ofString "closure" then some (.ref clo) else if y = Str.ofString "helper" then some (.ref hel) else m₀ y)
    (fun L => (L + 1, oc) :: (clo, instObj 456 cd) :: (cd, dictOf es n1) :: (hel, instObj 504 hx) :: (hx, dictOf es2 n2) :: (so, os) :: [])
    (fun K => K (.bool true) ((so, os) :: [])) := by
  intro dp un outer A₀ base h₀ L m₀ s Q E B F X N S T hd hu hE hret
  refine execs_as rfl ?_
  k_with "call ref" => ((open YesNtClD in skip); k_here; (with_reducible show wpAny _ _ (call (Value.ref 703) _) _ _ _); k_dflt (refine' make_use mk_glo ?kB ?kF ?kX ?kN ?kS ?kP ?kT ?kk ?kd ?ku ?_; k_extra "nt_use0"; k_whole); intro wo' wd' kt' bt' h' tk' F' N' S'; (try k_sweep))
  k_with "call ref" => ((open YesNtClD in skip); k_here; (with_reducible show wpAny _ _ (call (Value.ref 700) _) _ _ _); k_dflt (refine' code_use (next_s ?a1 ?a2) ?kB ?kF ?kX ?kN ?kS ?kP ?kT ?kk ?kd ?ku ?_; k_extra "nt_use0"; (case a1 => k_extra "nt_mem"); (case a2 => decide); k_whole); intro t9 kt9 h' tk' F' N' S'; (try k_sweep))
  k_with "call ref" => ((open YesNtClD in skip); k_here; (with_reducible show wpAny _ _ (call (Value.ref 714) [Value.ref clo]) _ _ _); k_dflt (refine' code_use (isf_lua ?a1 ?a2) ?kB ?kF ?kX ?kN ?kS ?kP ?kT ?kk ?kd ?ku ?_; k_extra "nt_use0"; (case a1 => k_extra "nt_mem"); (case a2 => k_extra "nt_mem"); k_whole); intro h' tk' F' N' S'; (try k_sweep))
  k_with "call ref" => ((open YesNtClD in skip); k_here; (with_reducible show wpAny _ _ (call (Value.ref 714) [Value.ref hel]) _ _ _); k_dflt (refine' code_use (isf_py ?a1 ?a2) ?kB ?kF ?kX ?kN ?kS ?kP ?kT ?kk ?kd ?ku ?_; k_extra "nt_use0"; (case a1 => k_extra "nt_mem"); (case a2 => k_extra "nt_mem"); k_whole); intro h' tk' F' N' S'; (try k_sweep))
  k_with "call ref" => ((open YesNtClD in skip); k_here; (with_reducible show wpAny _ _ (call (Value.ref 714) [Value.int _ _]) _ _ _); k_dflt (refine' code_use isf_int ?kB ?kF ?kX ?kN ?kS ?kP ?kT ?kk ?kd ?ku ?_; k_extra "nt_use0"; k_whole); intro h' tk' F' N' S'; (try k_sweep))
  k_with "CompEnd" => ((open YesNtClD in skip); k_dflt (refine' sx_endA ?k1 ?k2 ?k3 ?kA ?k4 ?_; (case k1 => k_asm); (case k2 => k_asm); (case k3 => k_asm); (case kA => (refine' Arr.cons ?pa (Arr.cons ?pb (Arr.cons ?pc Arr.refl)); (case pa => k_extra "nt_pick1"); (case pb => k_extra "nt_pick1"); (case pc => k_extra "nt_pick1"))); (case k4 => exact True.intro)); intro S')
  k_extra "nt_go"
  exact hret _ _ _ _ (congrArg Value.bool (by decide +kernel)) (by k_asm) (arr_news (by k_asm) (by k_extra "nt_arr")) (arr_sep (by k_asm) (by k_extra "nt_arr"))
end
end NtMine

end
-- NtClC
section
theorem NtMine.InNtClC.YesNtClC.here : True := True.intro
open NtMine.InNtClC
open PySem PySem.W PySem.Calls PyProof.Rows
set_option Elab.async false
namespace NtMine
set_option maxRecDepth 100000
set_option pp.deepTerms false
set_option pp.maxSteps 3000
set_option rowWalk.seconds 200
section
variable {w : World} {loose : List Str} {mean : ExcName → Option Value} {mg mb : Str → Option Value} {gd : Option (List Code)}
set_option maxHeartbeats 4000000
/-- statements 9 to 14 -/
theorem cl_c {so clo cd hel hx ca da : Addr} {oc : Obj} {es es2 : List DictEntry} {n1 n2 : Nat} {kt : Nat → Tok} {q1 q2 q3 q4 q5 q6 : Tok} {a0 a1 a2 a3 a4 a5 a6 a7 : Int} {t0 t1 t2 t3 t4 t5 t6 t7 : Tok} {more : List Value} {sn : Nat}
   (Z : SegK w loose mean mg mb gd 920 (Str.ofString "_law_call_right") (tS 72) (.ref 919) (cellsX (tS 72)) ((tB 72).drop 15) 12 200
    (fun m₀ y => if y = Str.ofString "closure" then some (.ref clo) else if y = Str.ofString "helper" then some (.ref hel) else m₀ y)
    (fun L => (L + 1, oc) :: (clo, instObj 456 cd) :: (cd, dictOf es n1) :: (hel, instObj 504 hx) :: (hx, dictOf es2 n2) :: (so, listOf (someL a0 a1 a2 a3 a4 a5 a6 a7 t0 t1 t2 t3 t4 t5 t6 t7 more).toArray sn) :: [])
    (fun K => K (.bool true) ((so, listOf (someL a0 a1 a2 a3 a4 a5 a6 a7 t0 t1 t2 t3 t4 t5 t6 t7 more).toArray sn) :: []))) :
   SegK w loose mean mg mb gd 920 (Str.ofString "_law_call_right") (tS 72) (.ref 919) (cellsX (tS 72)) ((tB 72).drop 9) 12 250
    (fun m₀ y => if y = Str.ofString "call" then some (.ref ca) else if y = Str.ofString "closure" then some (.ref clo) else if y = Str.ofString "helper" then some (.ref hel) else if y = Str.ofString "some" then some (.ref so) else m₀ y)
    (fun L => (ca, instObj 556 da) :: (da, cinD w.params kt (.int 1 q1) (.int 2 q2) (.int 9 q3) (.int (a0.fmod 5) q4) (.int 0 q5) (.int 0 q6) (.bool false)) :: (L + 1, oc) :: (clo, instObj 456 cd) :: (cd, dictOf es n1) :: (hel, instObj 504 hx) :: (hx, dictOf es2 n2) :: (so, listOf (someL a0 a1 a2 a3 a4 a5 a6 a7 t0 t1 t2 t3 t4 t5 t6 t7 more).toArray sn) :: [])
    (fun K => K (.bool true) ((so, listOf (someL a0 a1 a2 a3 a4 a5 a6 a7 t0 t1 t2 t3 t4 t5 t6 t7 more).toArray sn) :: [])) := by
  intro dp un outer A₀ base h₀ L m₀ s Q E B F X N S T hd hu hE hret
  refine execs_as rfl ?_
  k_with "call ref" => ((open YesNtClC in skip); k_here; (with_reducible show wpAny _ _ (call (Value.ref 553) _) _ _ _); k_dflt (refine' code_use (copied_s ?g1 ?g2 ?g3 ?g4 ?g5 ?g6 ?g7 ?h1 ?h2) ?kB ?kF ?kX ?kN ?kS ?kP ?kT ?kk ?kd ?ku ?_; k_extra "nt_use0"; (case h1 => k_extra "nt_mem"); (case h2 => k_extra "nt_mem"); (case g1 => exact rfl); (case g2 => exact rfl); (case g3 => exact rfl); (case g4 => exact rfl); (case g5 => exact rfl); (case g6 => exact rfl); (case g7 => exact rfl); k_whole); intro x' dx' kt' h' tk' F' N' S'; (try k_sweep))
  k_with "execs cons" => ((open YesNtClC in skip); (with_reducible show wpAny _ _ (execs (PySem.Stmt.Assign [PySem.Expr.Name (PySem.Str.ofString "world") _] _ _ :: _) _) _ _ _); refine Park.out ?_)
  k_extra "nt_go"
  refine Park.out ?_
  unfold Park
  k_dflt (refine' segk_use Z ?kB ?F1 ?kX ?kN ?kS ?kP ?kT ?kd ?ku ?kE ?R1)
  case F1 =>
    refine fr_put (fr_put (by k_asm) ?_) ?_
    all_goals exact rfl
  k_extra "nt_seg"
  exact hret
end
end NtMine

end
-- NtClB
section
theorem NtMine.InNtClB.YesNtClB.here : True := True.intro
open NtMine.InNtClB
open PySem PySem.W PySem.Calls PyProof.Rows
set_option Elab.async false
namespace NtMine
set_option maxRecDepth 100000
set_option pp.deepTerms false
set_option pp.maxSteps 3000
set_option rowWalk.seconds 200
section
variable {w : World} {loose : List Str} {mean : ExcName → Option Value} {mg mb : Str → Option Value} {gd : Option (List Code)}
theorem grownLe {vs : List Value} {k : Int} (h : k ≤ (vs.length : Int)) : grown vs k = vs := by
  unfold grown
  rw [show (k - vs.length).toNat = 0 by omega]
  exact List.append_nil vs
theorem push_i {kt : Nat → Tok} {x dx stk : Addr} {top : Int} {tt : Tok} {frs up : Addr} {vs : List Value} {n : Nat} {rest : Led} {v : Value} (hl : vs.length = 21) (h1 : 0 ≤ top) (h2 : top ≤ 20) :
   MakeK w loose mean mg mb gd 611 [.ref x, v] 2 24 (thrL w.params kt x dx stk top tt frs up vs n rest) (fun K => ∀ n' tt', K .none (thrL w.params kt x dx stk (top + 1) tt' frs up (vs.set top.toNat v) n' rest)) := by
  have e : grown vs (top + 1) = vs := grownLe (by omega)
  have := push_s (w := w) (loose := loose) (mean := mean) (mg := mg) (mb := mb) (gd := gd) (kt := kt) (x := x) (dx := dx) (stk := stk) (top := top) (tt := tt) (frs := frs) (up := up) (vs := vs) (n := n) (rest := rest) (v := v) ⟨by omega, by omega, by omega, by omega⟩
  rw [e] at this
  exact this
theorem two_get1 {vs : List Value} {c h : Value} (hl : vs.length = 21) : ((vs.set (Int.toNat 1) c).set (Int.toNat (1 + 1)) h)[Int.toNat 1]? = some c := by
  show ((vs.set 1 c).set 2 h)[1]? = some c
  rw [List.getElem?_set_ne (by decide), List.getElem?_set_self (by omega)]
theorem two_get2 {vs : List Value} {c h : Value} (hl : vs.length = 21) : ((vs.set (Int.toNat 1) c).set (Int.toNat (1 + 1)) h)[Int.toNat 2]? = some h := by
  show ((vs.set 1 c).set 2 h)[2]? = some h
  rw [List.getElem?_set_self (by rw [List.length_set]; omega)]
theorem len_set1 {vs : List Value} {k : Nat} {c : Value} (hl : vs.length = 21) : (vs.set k c).length = 21 := by rw [List.length_set]; exact hl
theorem lua_yes {c dc x dx stk y dy : Addr} {ec ex ey : List DictEntry} {nc nx ny n : Nat} {k : Int} {t : Tok} {vs : List Value} {news : Led} (h1 : (c, instObj 556 dc) ∈ news) (h2 : (dc, dictOf ec nc) ∈ news) (e1 : gets "func" ec (.int k t)) (h3 : (x, instObj 677 dx) ∈ news) (h4 : (dx, dictOf ex nx) ∈ news) (e2 : gets "stack" ex (.ref stk)) (h5 : (stk, listOf vs.toArray n) ∈ news)
   (hk : 0 ≤ k) (hk2 : k < 1000) (hv : vs[k.toNat]? = some (.ref y)) (h6 : (y, instObj 456 dy) ∈ news) (h7 : (dy, dictOf ey ny) ∈ news) : CodeK w loose mean mg mb gd 546 [.ref c, .ref x] 1 20 news (fun K => K (.bool true) news) := is_lua_s (.inl rfl) h1 h2 e1 h3 h4 e2 h5 hk hk2 hv h6 h7
theorem lua_no {c dc x dx stk y dy : Addr} {ec ex ey : List DictEntry} {nc nx ny n : Nat} {k : Int} {t : Tok} {vs : List Value} {news : Led} (h1 : (c, instObj 556 dc) ∈ news) (h2 : (dc, dictOf ec nc) ∈ news) (e1 : gets "func" ec (.int k t)) (h3 : (x, instObj 677 dx) ∈ news) (h4 : (dx, dictOf ex nx) ∈ news) (e2 : gets "stack" ex (.ref stk)) (h5 : (stk, listOf vs.toArray n) ∈ news)
   (hk : 0 ≤ k) (hk2 : k < 1000) (hv : vs[k.toNat]? = some (.ref y)) (h6 : (y, instObj 504 dy) ∈ news) (h7 : (dy, dictOf ey ny) ∈ news) : CodeK w loose mean mg mb gd 546 [.ref c, .ref x] 1 20 news (fun K => K (.bool false) news) := is_lua_s (.inr rfl) h1 h2 e1 h3 h4 e2 h5 hk hk2 hv h6 h7
set_option maxHeartbeats 4000000
/-- statements 4 to 8 -/
theorem cl_b {so x dx stk frs up : Addr} {oc : Obj} {kt : Nat → Tok} {tt : Tok} {vs : List Value} {n sn : Nat} {a0 a1 a2 a3 a4 a5 a6 a7 : Int} {t0 t1 t2 t3 t4 t5 t6 t7 : Tok} {more : List Value} (hl : vs.length = 21)
   (Z : ∀ {clo cd hel hx ca da : Addr} {es es2 : List DictEntry} {n1 n2 : Nat} {kt : Nat → Tok} {q1 q2 q3 q4 q5 q6 : Tok}, SegK w loose mean mg mb (some []) 920 (Str.ofString "_law_call_right") (tS 72) (.ref 919) (cellsX (tS 72)) ((tB 72).drop 9) 12 250
    (fun m₀ y => if y = Str.ofString "call" then some (.ref ca) else if y = Str.ofString "closure" then some (.ref clo) else if y = Str.ofString "helper" then some (.ref hel) else if y = Str.ofString "some" then some (.ref so) else m₀ y)
    (fun L => (ca, instObj 556 da) :: (da, cinD w.params kt (.int 1 q1) (.int 2 q2) (.int 9 q3) (.int (a0.fmod 5) q4) (.int 0 q5) (.int 0 q6) (.bool false)) :: (L + 1, oc) :: (clo, instObj 456 cd) :: (cd, dictOf es n1) :: (hel, instObj 504 hx) :: (hx, dictOf es2 n2) :: (so, listOf (someL a0 a1 a2 a3 a4 a5 a6 a7 t0 t1 t2 t3 t4 t5 t6 t7 more).toArray sn) :: [])
    (fun K => K (.bool true) ((so, listOf (someL a0 a1 a2 a3 a4 a5 a6 a7 t0 t1 t2 t3 t4 t5 t6 t7 more).toArray sn) :: []))) :
   SegK w loose mean mg mb (some []) 920 (Str.ofString "_law_call_right") (tS 72) (.ref 919) (cellsX (tS 72)) ((tB 72).drop 4) 12 300
    (fun m₀ y => if y = Str.ofString "thread" then some (.ref x) else if y = Str.ofString "some" then some (.ref so) else m₀ y)
    (fun L => thrL w.params kt x dx stk 1 tt frs up vs n ((L + 1, oc) :: (so, listOf (someL a0 a1 a2 a3 a4 a5 a6 a7 t0 t1 t2 t3 t4 t5 t6 t7 more).toArray sn) :: []))
    (fun K => K (.bool true) ((so, listOf (someL a0 a1 a2 a3 a4 a5 a6 a7 t0 t1 t2 t3 t4 t5 t6 t7 more).toArray sn) :: [])) := by
  intro dp un outer A₀ base h₀ L m₀ s Q E B F X N S T hd hu hE hret
  refine execs_as rfl ?_
  k_with "call ref" => ((open YesNtClB in skip); k_here; (with_reducible show wpAny _ _ (call (Value.ref 611) _) _ _ _); k_dflt (refine' make_use (push_i ?pl ?pb ?pc) ?kB ?kF ?kX ?kN ?kS ?kP ?kT ?kk ?kd ?ku ?_; k_extra "nt_use0"; (case pl => first | exact hl | exact len_set1 hl); (case pb => decide); (case pc => decide); k_whole); intro n1' tt1' h' tk' F' N' S'; (try k_sweep))
  k_with "call ref" => ((open YesNtClB in skip); k_here; (with_reducible show wpAny _ _ (call (Value.ref 556) _) _ _ _); k_dflt (refine' make_use mk_cin ?kB ?kF ?kX ?kN ?kS ?kP ?kT ?kk ?kd ?ku ?_; k_extra "nt_use0"; k_whole); intro x' dx' kt' h' tk' F' N' S'; (try k_sweep))
  k_with "nt_lua" => ((open YesNtClB in skip); (case h1 => k_extra "nt_mem"); (case h2 => k_extra "nt_mem"); (case e1 => k_extra "nt_gets"); (case h3 => k_extra "nt_mem"); (case h4 => k_extra "nt_mem"); (case e2 => k_extra "nt_gets"); (case h5 => k_extra "nt_mem"); (case hk => decide); (case hk2 => decide))
  k_with "nt_luaY" => ((open YesNtClB in skip); k_dflt (refine' code_use (lua_yes ?h1 ?h2 ?e1 ?h3 ?h4 ?e2 ?h5 ?hk ?hk2 ?hv ?h6 ?h7) ?kB ?kF ?kX ?kN ?kS ?kP ?kT ?kk ?kd ?ku ?_; k_extra "nt_use0"; k_extra "nt_lua"; (case hv => exact two_get1 hl); (case h6 => k_extra "nt_mem"); (case h7 => k_extra "nt_mem"); k_whole))
  k_with "nt_luaN" => ((open YesNtClB in skip); k_dflt (refine' code_use (lua_no ?h1 ?h2 ?e1 ?h3 ?h4 ?e2 ?h5 ?hk ?hk2 ?hv ?h6 ?h7) ?kB ?kF ?kX ?kN ?kS ?kP ?kT ?kk ?kd ?ku ?_; k_extra "nt_use0"; k_extra "nt_lua"; (case hv => exact two_get2 hl); (case h6 => k_extra "nt_mem"); (case h7 => k_extra "nt_mem"); k_whole))
  k_with "call ref" => ((open YesNtClB in skip); k_here; (with_reducible show wpAny _ _ (call (Value.ref 546) _) _ _ _); (first | k_extra "nt_luaY" | k_extra "nt_luaN"); intro h' tk' F' N' S'; (try k_sweep))
  k_with "call ref" => ((open YesNtClB in skip); k_here; (with_reducible show wpAny _ _ (call (Value.ref 667) _) _ _ _); k_dflt (refine' code_use (funcat_s ?h1 ?h2 ?e1 ?h3 ?h4 ?e2 ?h5 ?hk ?hk2 ?hv) ?kB ?kF ?kX ?kN ?kS ?kP ?kT ?kk ?kd ?ku ?_; k_extra "nt_use0"; k_extra "nt_lua"; (case hv => exact two_get1 hl); k_whole); intro h' tk' F' N' S'; (try k_sweep))
  k_with "compareOp NotEq ref ref" => ((open YesNtClB in skip); k_here; (with_reducible show wpAny _ _ (compareOp _ (Value.ref _) (Value.ref _)) _ _ _); k_dflt (refine' nt_neSelf ?yk1 ?yk2 ?yk3 ?yk4 ?yk5 ?yk6 ?yk7 ?_; (case yk2 => k_asm); (case yk3 => k_asm); (case yk4 => (refine' InstAt.of_news ?yN ?yh1 ?yh2; (case yN => k_asm); (case yh1 => k_extra "nt_mem"); (case yh2 => k_extra "nt_mem"))); (case yk5 => k_is); (case yk6 => k_is); (case yk7 => k_is); (case yk1 => ktr_units); k_whole))
  k_with "execs cons" => ((open YesNtClB in skip); (with_reducible show wpAny _ _ (execs (PySem.Stmt.Assign [PySem.Expr.Tuple [PySem.Expr.Attribute _ _ _, _, _] _ _] _ _ :: _) _) _ _ _); refine Park.out ?_)
  k_extra "nt_go"
  refine Park.out ?_
  unfold Park
  k_dflt (refine' segk_use Z ?kB ?F1 ?kX ?kN ?kS ?kP ?kT ?kd ?ku ?kE ?R1)
  case F1 =>
    refine fr_put (fr_put (fr_put (fr_put (by k_asm) ?_) ?_) ?_) ?_
    all_goals exact rfl
  k_extra "nt_seg"
  exact hret
end
end NtMine

end
-- NtClA
section
theorem NtMine.InNtClA.YesNtClA.here : True := True.intro
open NtMine.InNtClA
open PySem PySem.W PySem.Calls PyProof.Rows
set_option Elab.async false
namespace NtMine
set_option maxRecDepth 100000
set_option pp.deepTerms false
set_option pp.maxSteps 3000
set_option rowWalk.seconds 200
section
variable {w : World} {loose : List Str} {mean : ExcName → Option Value} {mg mb : Str → Option Value}
set_option maxHeartbeats 4000000
/-- statements 0 to 3 -/
theorem cl_a {so : Addr} {sn : Nat} {a0 a1 a2 a3 a4 a5 a6 a7 : Int} {t0 t1 t2 t3 t4 t5 t6 t7 : Tok} {more : List Value}
   (Z : ∀ {x dx stk frs up : Addr} {oc : Obj} {kt : Nat → Tok} {tt : Tok} {vs : List Value} {n : Nat} (_ : oc.data = .cell none) (_ : vs.length = 21), SegK w loose mean mg mb (some []) 920 (Str.ofString "_law_call_right") (tS 72) (.ref 919) (cellsX (tS 72)) ((tB 72).drop 4) 12 300
    (fun m₀ y => if y = Str.ofString "thread" then some (.ref x) else if y = Str.ofString "some" then some (.ref so) else m₀ y)
    (fun L => thrL w.params kt x dx stk 1 tt frs up vs n ((L + 1, oc) :: (so, listOf (someL a0 a1 a2 a3 a4 a5 a6 a7 t0 t1 t2 t3 t4 t5 t6 t7 more).toArray sn) :: []))
    (fun K => K (.bool true) ((so, listOf (someL a0 a1 a2 a3 a4 a5 a6 a7 t0 t1 t2 t3 t4 t5 t6 t7 more).toArray sn) :: []))) :
   CodeK w loose mean mg mb (some []) 920 [.ref so] 20 400 ((so, listOf (someL a0 a1 a2 a3 a4 a5 a6 a7 t0 t1 t2 t3 t4 t5 t6 t7 more).toArray sn) :: []) (fun K => K (.bool true) ((so, listOf (someL a0 a1 a2 a3 a4 a5 a6 a7 t0 t1 t2 t3 t4 t5 t6 t7 more).toArray sn) :: [])) := by
  refine' code_of_bodyC (binds := [(Str.ofString "some", .ref so)]) (m1 := fun y => if y = Str.ofString "some" then some (.ref so) else none) (fun _ _ h H => h _ _ H) ?ho ?hcd ?hbind ?hkind ?hb ?hnd ?c1 ?c2 ?c3 ?hm ?hc ?hcv ?_
  k_extra "nt_bodyC"
  intro oc hoc dp un outer A₀ base h₀ L m₀ s Q E B F X N S T hd hu hE hret
  k_with "call ref" => ((open YesNtClA in skip); k_here; (with_reducible show wpAny _ _ (call (Value.ref 677) _) _ _ _); k_dflt (refine' make_use mk_thr ?kB ?kF ?kX ?kN ?kS ?kP ?kT ?kk ?kd ?ku ?_; k_extra "nt_use0"; k_whole); intro x' dx' kt' stk' frs' up' c' c1' c2' h' tk' F' N' S'; (try k_sweep))
  k_with "call ref" => ((open YesNtClA in skip); k_here; (with_reducible show wpAny _ _ (call (Value.ref 597) _) _ _ _); k_dflt (refine' code_use ground_s ?kB ?kF ?kX ?kN ?kS ?kP ?kT ?kk ?kd ?ku ?_; k_extra "nt_use0"; k_whole); intro n2' a2' d2' u0 u1 u2 u3 u4 u5 u6 u7 u8 u9 u10 u11 u12 tt2' vs2' hl2 h' tk' F' N' S'; (try k_sweep))
  k_with "execs cons" => ((open YesNtClA in skip); (with_reducible show wpAny _ _ (execs (PySem.Stmt.Assign [PySem.Expr.Tuple [PySem.Expr.Name _ _, _] _ _] _ _ :: _) _) _ _ _); refine Park.out ?_)
  k_extra "nt_go"
  refine Park.out ?_
  unfold Park
  k_dflt (refine' segk_use (Z hoc hl2) ?kB ?F1 ?kX ?kN ?kS ?kP ?kT ?kd ?ku ?kE ?R1)
  case F1 =>
    refine fr_put (fr_put (by k_asm) ?_) ?_
    all_goals exact rfl
  k_extra "nt_seg"
  exact hret
end
/-- call_right answers True -/
theorem callr_says {w : World} {loose : List Str} {mean : ExcName → Option Value} {mg mb : Str → Option Value} {so : Addr} {a0 a1 a2 a3 a4 a5 a6 a7 : Int} {t0 t1 t2 t3 t4 t5 t6 t7 : Tok} {more : List Value} {sn : Nat} :
   CodeK w loose mean mg mb (some []) 920 [.ref so] 20 400 ((so, listOf (someL a0 a1 a2 a3 a4 a5 a6 a7 t0 t1 t2 t3 t4 t5 t6 t7 more).toArray sn) :: []) (fun K => K (.bool true) ((so, listOf (someL a0 a1 a2 a3 a4 a5 a6 a7 t0 t1 t2 t3 t4 t5 t6 t7 more).toArray sn) :: [])) :=
  cl_a fun hoc hl => cl_b hl (cl_c (cl_d hoc))
end NtMine

end
-- NtInvS
section
open PySem PySem.W PySem.Calls PyProof.Rows
set_option Elab.async false
namespace NtMine
theorem cons_out {α : Type} {a q : α} {l l' : List α} (h : l ⊆ q :: l') : a :: l ⊆ q :: a :: l' := fun p hp =>
  (List.mem_cons.mp hp).elim (fun e => e ▸ .tail _ (.head _)) fun hp => (List.mem_cons.mp (h hp)).elim (fun e => e ▸ .head _) fun h => .tail _ (.tail _ h)
theorem cons_in {α : Type} {a q : α} {l l' : List α} (h : q :: l ⊆ l') : q :: a :: l ⊆ a :: l' := fun p hp =>
  (List.mem_cons.mp hp).elim (fun e => e ▸ .tail _ (h (.head _))) fun hp => (List.mem_cons.mp hp).elim (fun e => e ▸ .head _) fun hp => .tail _ (h (.tail _ hp))
theorem Inv_out {P : Params} {kt : Nat → Tok} {x dx frs up mi ca I : Addr} {o : Obj} {rest₀ : Led} {k : Nat} {room : Int} {l : Led} {h₀ h : Heap} {L : Addr}
    (hI : Inv P kt x dx frs up mi ca ((I, o) :: rest₀) k room l) (N : News h₀ L h l) (ho : o.cls = .type "list_iterator") (hr : ∀ p ∈ rest₀, p.1 ≠ I) :
    ∃ l', Inv P kt x dx frs up mi ca rest₀ k room l' ∧ News h₀ L h ((I, o) :: l') ∧ OwnOff [(I, o)] (l'.map (·.1)) := by
  obtain ⟨stk, tt, vs, n, fvs, nf, ms, nm, cvs, nc, rest, xs, qs, rfl, hA, hoff, hr0, hS, hM, hFr, hQd, hG⟩ := hI
  have hIr : (I, o) ∈ rest := hr0 _ (.head _)
  have hsub : ∀ p ∈ rest, p ∈ lawL P kt x dx stk (xs.length : Int) tt frs up vs n fvs nf mi ms nm ca cvs nc rest := fun p hp => .tail _ (.tail _ (.tail _ (.tail _ (.tail _ (.tail _ hp)))))
  have hIg : h.get? I = some o := (N _ (hsub _ hIr)).1
  have hty : ∀ a b : String, a ≠ b → Value.type a ≠ Value.type b := fun a b h e => h (Value.type.inj e)
  have hno : ∀ (a : Addr) (o' : Obj), (a, o') ∈ rest → o'.cls ≠ .type "list_iterator" → a ≠ I := by
    intro a o' hm hc e
    subst e
    have h2 := (N _ (hsub _ hm)).1
    rw [hIg] at h2
    have h3 : o = o' := Option.some.inj h2
    exact hc (h3 ▸ ho)
  have hin : ∀ (a : Addr) (o' : Obj), (a, o') ∈ rest → o'.cls ≠ .type "list_iterator" → (a, o') ∈ rest.filter fun p => decide (p.1 ≠ I) := fun a o' hm hc => List.mem_filter.mpr ⟨hm, decide_eq_true (hno a o' hm hc)⟩
  refine ⟨lawL P kt x dx stk (xs.length : Int) tt frs up vs n fvs nf mi ms nm ca cvs nc (rest.filter fun p => decide (p.1 ≠ I)), ⟨stk, tt, vs, n, fvs, nf, ms, nm, cvs, nc, _, xs, qs, rfl, hA, fun p hp => hoff p (List.mem_filter.mp hp).1, fun p hp => List.mem_filter.mpr ⟨hr0 p (.tail _ hp), decide_eq_true (hr p hp)⟩, hS, hM, ⟨hFr.len, fun i v q h1 h2 => ?_⟩, ⟨hQd.len, fun i v q h1 h2 => ?_⟩, hG⟩, fun p hp => ?_, fun p hp b hb => ?_⟩
  · obtain ⟨a, d, kk, e, m1, m2⟩ := hFr.at' i v q h1 h2
    exact ⟨a, d, kk, e, hin _ _ m1 (fun h => nomatch h), hin _ _ m2 (hty _ _ (by decide))⟩
  · obtain ⟨a, t1, t2, t3, t4, nn, e, m1⟩ := hQd.at' i v q h1 h2
    exact ⟨a, t1, t2, t3, t4, nn, e, hin _ _ m1 (hty _ _ (by decide))⟩
  · exact N p (cons_in (cons_in (cons_in (cons_in (cons_in (cons_in fun q hq => (List.mem_cons.mp hq).elim (fun e => e ▸ hIr) fun h => (List.mem_filter.mp h).1))))) hp)
  · rw [List.mem_singleton.mp hp]
    have hb' : b ∈ [x, dx, stk, frs, mi, ca] ++ (rest.filter fun p => decide (p.1 ≠ I)).map (·.1) := hb
    refine (List.mem_append.mp hb').elim (hoff _ hIr b) fun h e => ?_
    obtain ⟨q, hq, hq'⟩ := List.mem_map.mp h
    exact of_decide_eq_true (List.mem_filter.mp hq).2 (hq'.trans e.symm)
theorem Inv_in {P : Params} {kt : Nat → Tok} {x dx frs up mi ca I : Addr} {o : Obj} {rest₀ : Led} {k : Nat} {room : Int} {l : Led} {h₀ h : Heap} {L : Addr}
    (hI : Inv P kt x dx frs up mi ca rest₀ k room l) (N : News h₀ L h ((I, o) :: l)) (ho : OwnOff [(I, o)] (l.map (·.1))) :
    ∃ l', Inv P kt x dx frs up mi ca ((I, o) :: rest₀) k room l' ∧ News h₀ L h l' := by
  obtain ⟨stk, tt, vs, n, fvs, nf, ms, nm, cvs, nc, rest, xs, qs, rfl, hA, hoff, hr0, hS, hM, hFr, hQd, hG⟩ := hI
  refine ⟨lawL P kt x dx stk (xs.length : Int) tt frs up vs n fvs nf mi ms nm ca cvs nc ((I, o) :: rest), ⟨stk, tt, vs, n, fvs, nf, ms, nm, cvs, nc, _, xs, qs, rfl, hA, fun p hp b hb => ?_, fun p hp => ?_, hS, hM, ⟨hFr.len, fun i v q h1 h2 => ?_⟩, ⟨hQd.len, fun i v q h1 h2 => ?_⟩, hG⟩, fun p hp => ?_⟩
  · rcases List.mem_cons.mp hp with rfl | hp
    · exact ho _ (.head _) b (show b ∈ [x, dx, stk, frs, mi, ca] ++ rest.map (·.1) from List.mem_append_left _ hb)
    · exact hoff p hp b hb
  · rcases List.mem_cons.mp hp with rfl | hp
    · exact .head _
    · exact .tail _ (hr0 p hp)
  · obtain ⟨a, d, kk, e, m1, m2⟩ := hFr.at' i v q h1 h2
    exact ⟨a, d, kk, e, .tail _ m1, .tail _ m2⟩
  · obtain ⟨a, t1, t2, t3, t4, nn, e, m1⟩ := hQd.at' i v q h1 h2
    exact ⟨a, t1, t2, t3, t4, nn, e, .tail _ m1⟩
  · exact N p (cons_out (cons_out (cons_out (cons_out (cons_out (cons_out fun _ h => h))))) hp)
end NtMine

end
-- NtLawP
section
open PySem PySem.W PySem.Calls PyProof.Rows
set_option Elab.async false
namespace NtMine
theorem ints_head {ws : List Value} {m : Int} {ms : List Int} (h : IntsAre ws (m :: ms)) : ∃ t ws', ws = .int m t :: ws' ∧ IntsAre ws' ms := by
  cases h with
  | cons _ t h => exact ⟨t, _, rfl, h⟩
theorem ints_some {ws : List Value} : ∀ {ms : List Int}, IntsAre ws ms → (∀ a ∈ ms, 0 ≤ a) → 12 ≤ ms.length → ∃ a0 a1 a2 a3 a4 a5 a6 a7 t0 t1 t2 t3 t4 t5 t6 t7 more, ws = someL a0 a1 a2 a3 a4 a5 a6 a7 t0 t1 t2 t3 t4 t5 t6 t7 more ∧ 0 ≤ a3 ∧ 0 ≤ a4 ∧ 0 ≤ a5 ∧ 0 ≤ a6 ∧ 0 ≤ a7
  | a0 :: a1 :: a2 :: a3 :: a4 :: a5 :: a6 :: a7 :: ms, h, hp, _ => by
    obtain ⟨t0, w0, e0, h0⟩ := ints_head h
    obtain ⟨t1, w1, e1, h1⟩ := ints_head h0
    obtain ⟨t2, w2, e2, h2⟩ := ints_head h1
    obtain ⟨t3, w3, e3, h3⟩ := ints_head h2
    obtain ⟨t4, w4, e4, h4⟩ := ints_head h3
    obtain ⟨t5, w5, e5, h5⟩ := ints_head h4
    obtain ⟨t6, w6, e6, h6⟩ := ints_head h5
    obtain ⟨t7, w7, e7, h7⟩ := ints_head h6
    subst e7 e6 e5 e4 e3 e2 e1 e0
    exact ⟨a0, a1, a2, a3, a4, a5, a6, a7, t0, t1, t2, t3, t4, t5, t6, t7, _, rfl, hp _ (by simp), hp _ (by simp), hp _ (by simp), hp _ (by simp), hp _ (by simp)⟩
  | [], _, _, h => absurd h (by decide)
  | [_], _, _, h => absurd h (by simp)
  | [_, _], _, _, h => absurd h (by simp)
  | [_, _, _], _, _, h => absurd h (by simp)
  | [_, _, _, _], _, _, h => absurd h (by simp)
  | [_, _, _, _, _], _, _, h => absurd h (by simp)
  | [_, _, _, _, _, _], _, _, h => absurd h (by simp)
  | [_, _, _, _, _, _, _], _, _, h => absurd h (by simp)
theorem inv_start {P : Params} {kt : Nat → Tok} {x dx stk frs up mi ca : Addr} {tt : Tok} {n nf nm nc : Nat} {rest₀ : Led}
    (S : Sep ((x, instObj 677 dx) :: (dx, thrD P kt stk 0 tt frs up) :: (stk, listOf (List.replicate 20 Value.none).toArray n) :: (frs, listOf #[] nf) :: (mi, listOf #[] nm) :: (ca, listOf #[] nc) :: rest₀)) :
    Inv P kt x dx frs up mi ca rest₀ 0 20 ((x, instObj 677 dx) :: (dx, thrD P kt stk 0 tt frs up) :: (stk, listOf (List.replicate 20 Value.none).toArray n) :: (frs, listOf #[] nf) :: (mi, listOf #[] nm) :: (ca, listOf #[] nc) :: rest₀) := by
  obtain ⟨s1, s2, s3, s4, s5, s6, _⟩ := S
  refine ⟨stk, tt, List.replicate 20 .none, n, [], nf, [], nm, [], nc, rest₀, [], [], rfl, ?_, ?_, fun p hp => hp, ?_, ?_, ?_, ?_, ?_⟩
  · exact ⟨(s1 _ (.head _)).symm, (s1 _ (.tail _ (.head _))).symm, (s2 _ (.head _)).symm, s1 _ (.tail _ (.tail _ (.head _))), s2 _ (.tail _ (.head _)), s3 _ (.head _),
      s1 _ (.tail _ (.tail _ (.tail _ (.head _)))), s2 _ (.tail _ (.tail _ (.head _))), s3 _ (.tail _ (.head _)), s4 _ (.head _),
      s1 _ (.tail _ (.tail _ (.tail _ (.tail _ (.head _))))), s2 _ (.tail _ (.tail _ (.tail _ (.head _)))), s3 _ (.tail _ (.tail _ (.head _))), s4 _ (.tail _ (.head _)), s5 _ (.head _)⟩
  · intro p hp b hb
    simp only [List.mem_cons, List.not_mem_nil, or_false] at hb
    rcases hb with rfl | rfl | rfl | rfl | rfl | rfl
    · exact s1 p (.tail _ (.tail _ (.tail _ (.tail _ (.tail _ hp)))))
    · exact s2 p (.tail _ (.tail _ (.tail _ (.tail _ hp))))
    · exact s3 p (.tail _ (.tail _ (.tail _ hp)))
    · exact s4 p (.tail _ (.tail _ hp))
    · exact s5 p (.tail _ hp)
    · exact s6 p hp
  · refine ⟨rfl, Nat.zero_le _, fun j v h => ?_⟩
    have hv : v = .none := (List.mem_replicate.mp (List.mem_of_getElem? h)).2
    subst hv
    exact .none
  · exact .nil
  · exact ⟨rfl, fun i v q h => nomatch h⟩
  · exact ⟨rfl, fun i v q h => nomatch h⟩
  · exact ⟨(fun d h => nomatch h), Nat.zero_le _, by decide, Nat.zero_le _, (fun q h => nomatch h)⟩
end NtMine

end
-- NtLawA
section
open NtMine.InNtCompL
open NtMine.InNtDeed
open NtMine.InNtStands
open NtMine.InNtNums
theorem NtMine.InNtLawA.YesNtLawA.here : True := True.intro
open NtMine.InNtLawA
open PySem PySem.W PySem.Calls PyProof.Rows
set_option Elab.async false
namespace NtMine
set_option maxRecDepth 100000
set_option pp.deepTerms false
set_option pp.maxSteps 3000
set_option rowWalk.seconds 200
section
variable {w : World} {loose : List Str} {mean : ExcName → Option Value} {mg mb : Str → Option Value}
set_option maxHeartbeats 4000000
theorem sep_single {p : Addr × Obj} : Sep [p] := ⟨(fun _ h => nomatch h), True.intro⟩
theorem nums_s {gd : Option (List Code)} {sc : Addr} {vs : List Value} {ns : List Int} {n : Nat} (hi : IntsAre vs ns) (hlen : ns.length ≤ 63) :
   MakeK w loose mean mg mb gd 905 [.ref sc] 6 400 [(sc, listOf vs.toArray n)] (fun K => ∀ so ws ms n', IntsAre ws ms → (∀ a ∈ ms, 0 ≤ a) → 12 ≤ ms.length → ms.length ≤ 18 → K (.ref so) [(so, listOf ws.toArray n')]) :=
  make_of_says (fun _ => nums_says hi hlen) fun K r nx S P h => by
    obtain ⟨so, ws, ms, n', rfl, rfl, a, b, c, d⟩ := P
    exact ⟨⟨(fun _ h => nomatch h), True.intro⟩, h so ws ms n' a b c d⟩
/-- statements 0 and 1 -/
theorem law_a {fa : Addr} {cdv : Value} {sc : Addr} {vs : List Value} {ns : List Int}
   (Z : ∀ {x dx stk frs up mi ca so : Addr} {kt : Nat → Tok} {tr tt : Tok} {ws : List Value} {ms : List Int} {n nf nm nc sn : Nat}, IntsAre ws ms → (∀ a ∈ ms, 0 ≤ a) → 12 ≤ ms.length → ms.length ≤ 18 → SegK w loose mean mg mb (some []) fa (Str.ofString "law") (tS 76) cdv (fun _ => []) ((tB 76).drop 2) 30 700
    (fun m₀ y => if y = Str.ofString "room" then some (.int 20 tr) else if y = Str.ofString "calls" then some (.ref ca) else if y = Str.ofString "mine" then some (.ref mi) else if y = Str.ofString "thread" then some (.ref x) else if y = Str.ofString "some" then some (.ref so) else m₀ y)
    (fun _ => (x, instObj 677 dx) :: (dx, thrD w.params kt stk 0 tt frs up) :: (stk, listOf (List.replicate 20 Value.none).toArray n) :: (frs, listOf #[] nf) :: (mi, listOf #[] nm) :: (ca, listOf #[] nc) :: (so, listOf ws.toArray sn) :: [])
    (fun K => ∀ nx, K (.bool true) nx))
   {dp un : Nat} {outer : List Env} {A₀ : Around} {base h₀ : Heap} {L : Addr} {s : Shared} {Q : Flow → Shared → Prop} {E : Value → Shared → Prop} (hL : h₀.IsList sc vs.toArray) (hI : IntsAre vs ns) (hlen : ns.length ≤ 63)
   (B : Below A₀ base outer h₀) (F : Fr h₀ L s.heap (fun y => if y = Str.ofString "script" then some (.ref sc) else none)) (X : (hd.heap_39 w.params).In h₀) (N : News h₀ L s.heap []) (T : Top hd.view_39 loose mean mg mb h₀) (hd : dp + 30 < recursionLimit) (hu : un + 900 < cLine)
   (hE : PassesOwn (model PySem.Challenge.rw_nt0650_01.row.prog w) (ktrTop dp un (some []) (Str.ofString "law") (tS 76) L fa cdv [] outer) (envOf (Str.ofString "law") (tS 76) L fa cdv) E)
   (hret : ∀ nx (fl : Flow) (h' : Heap) (tk' : Nat) (m' : Str → Option Value), flv fl = .bool true → Fr h₀ L h' m' → News h₀ L h' nx → Sep nx → Q fl { s with heap := h', toks := tk' }) :
    wpAny (model PySem.Challenge.rw_nt0650_01.row.prog w) (ktrTop dp un (some []) (Str.ofString "law") (tS 76) L fa cdv [] outer) (execs (tB 76) (envOf (Str.ofString "law") (tS 76) L fa cdv)) Q E s := by
  have S : Sep [] := True.intro
  have hl := hI.length
  refine execs_as rfl ?_
  k_with "call ref" => ((open YesNtLawA in skip); k_here; (with_reducible show wpAny _ _ (call (Value.ref 905) _) _ _ _); k_dflt (refine' make_use (nums_s hI hlen) ?kB ?kF ?kX ?kN ?kS ?kP ?kT ?kk ?kd ?ku ?_; (case kB => k_asm); (case kF => k_asm); (case kX => k_asm); (case kN => k_asm); (case kS => exact sep_single); (case kP => k_extra "nt_arr"); (case kT => k_asm); (case kk => exact rfl); (case kd => k_extra "nt_room"); (case ku => k_extra "nt_room"); k_whole); intro so' ws' ms' n' i1' i2' i3' i4' h' tk' F' N' S'; (try k_sweep))
  k_with "call ref" => ((open YesNtLawA in skip); k_here; (with_reducible show wpAny _ _ (call (Value.ref 677) _) _ _ _); k_dflt (refine' make_use mk_thr ?kB ?kF ?kX ?kN ?kS ?kP ?kT ?kk ?kd ?ku ?_; k_extra "nt_use0"; k_whole); intro x' dx' kt' stk' frs' up' c' c1' c2' h' tk' F' N' S'; (try k_sweep))
  k_with "execs cons" => ((open YesNtLawA in skip); (with_reducible show wpAny _ _ (execs (PySem.Stmt.For _ _ _ _ _ :: _) _) _ _ _); refine Park.out ?_)
  k_extra "nt_go"
  refine Park.out ?_
  unfold Park
  k_dflt (refine' segk_use (Z i1' i2' i3' i4') ?kB ?F1 ?kX ?kN ?kS ?kP ?kT ?kd ?ku ?kE ?R1)
  case F1 =>
    refine fr_put (fr_put (fr_put (fr_put (fr_put (by k_asm) ?_) ?_) ?_) ?_) ?_
    all_goals exact rfl
  k_extra "nt_seg"
  exact hret
end
end NtMine

end
-- NtLawY
section
open NtMine.InNtCompL
theorem NtMine.InNtLawY.YesNtLawY.here : True := True.intro
open NtMine.InNtLawY
open PySem PySem.W PySem.Calls PyProof.Rows
set_option Elab.async false
namespace NtMine
set_option maxRecDepth 100000
set_option pp.deepTerms false
set_option pp.maxSteps 3000
set_option rowWalk.seconds 200
section
variable {w : World} {loose : List Str} {mean : ExcName → Option Value} {mg mb : Str → Option Value}
set_option maxHeartbeats 4000000
/-- statement 3: the three sub-laws -/
theorem law_y {fa : Addr} {cdv : Value} {so : Addr} {sn : Nat} {a0 a1 a2 a3 a4 a5 a6 a7 : Int} {t0 t1 t2 t3 t4 t5 t6 t7 : Tok} {more : List Value} (hp3 : 0 ≤ a3) (hp4 : 0 ≤ a4) (hp5 : 0 ≤ a5) (hp6 : 0 ≤ a6) (hp7 : 0 ≤ a7) :
   SegK w loose mean mg mb (some []) fa (Str.ofString "law") (tS 76) cdv (fun _ => []) ((tB 76).drop 3) 25 500
    (fun m₀ y => if y = Str.ofString "some" then some (.ref so) else m₀ y)
    (fun _ => (so, listOf (someL a0 a1 a2 a3 a4 a5 a6 a7 t0 t1 t2 t3 t4 t5 t6 t7 more).toArray sn) :: [])
    (fun K => ∀ nx, K (.bool true) nx) := by
  intro dp un outer A₀ base h₀ L m₀ s Q E B F X N S T hd hu hE hret
  refine execs_as rfl ?_
  k_with "call ref" => ((open YesNtLawY in skip); k_here; (with_reducible show wpAny _ _ (call (Value.ref 920) _) _ _ _); k_dflt (refine' code_use callr_says ?kB ?kF ?kX ?kN ?kS ?kP ?kT ?kk ?kd ?ku ?_; k_extra "nt_use0"; k_whole); intro h' tk' F' N' S'; (try k_sweep))
  k_with "call ref" => ((open YesNtLawY in skip); k_here; (with_reducible show wpAny _ _ (call (Value.ref 925) _) _ _ _); k_dflt (refine' code_use (function_says hp3 hp4) ?kB ?kF ?kX ?kN ?kS ?kP ?kT ?kk ?kd ?ku ?_; k_extra "nt_use0"; k_whole); intro h' tk' F' N' S'; (try k_sweep))
  k_with "call ref" => ((open YesNtLawY in skip); k_here; (with_reducible show wpAny _ _ (call (Value.ref 939) _) _ _ _); k_dflt (refine' code_use (objects_says hp5 hp6 hp7) ?kB ?kF ?kX ?kN ?kS ?kP ?kT ?kk ?kd ?ku ?_; k_extra "nt_use0"; k_whole); intro h' tk' F' N' S'; (try k_sweep))
  k_extra "nt_go"
  refine hret _ _ _ _ _ ?hr (by k_asm) (by k_asm) (by k_asm)
  exact rfl
end
end NtMine

end
-- NtLawZ
section
open NtMine.InNtCompL
open NtMine.InNtDeed
open NtMine.InNtStands
open NtMine.InNtNums
theorem NtMine.InNtLawZ.YesNtLawZ.here : True := True.intro
open NtMine.InNtLawZ
open PySem PySem.W PySem.Calls PyProof.Rows
set_option Elab.async false
namespace NtMine
set_option maxRecDepth 100000
set_option pp.deepTerms false
set_option pp.maxSteps 3000
set_option rowWalk.seconds 200
section
variable {w : World} {loose : List Str} {mean : ExcName → Option Value} {mg mb : Str → Option Value}
set_option maxHeartbeats 4000000
theorem ints_at : ∀ {ws : List Value} {ms : List Int} {i : Nat} {v : Value}, IntsAre ws ms → ws[i]? = some v → ∃ nb t, v = .int nb t ∧ nb ∈ ms
  | _, _, _, _, .nil, h => nomatch h
  | _, _, 0, _, .cons nb t _, h => ⟨nb, t, (Option.some.inj h).symm, .head _⟩
  | _, _, _ + 1, _, .cons _ _ k, h => by
    obtain ⟨nb, t, e, m⟩ := ints_at k h
    exact ⟨nb, t, e, .tail _ m⟩
theorem inv_mem {P : Params} {kt : Nat → Tok} {x dx frs up mi ca : Addr} {rest₀ : Led} {k : Nat} {room : Int} {l : Led} {p : Addr × Obj} (h : Inv P kt x dx frs up mi ca rest₀ k room l) (hp : p ∈ rest₀) : p ∈ l := by
  obtain ⟨stk, tt, vs, n, fvs, nf, ms, nm, cvs, nc, rest, xs, qs, rfl, hA, hoff, hr0, _⟩ := h
  exact .tail _ (.tail _ (.tail _ (.tail _ (.tail _ (.tail _ (hr0 p hp))))))
/-- statement 2, the loop -/
theorem law_z {fa : Addr} {cdv : Value} {x dx stk frs up mi ca so : Addr} {kt : Nat → Tok} {tr tt : Tok} {ws : List Value} {ms : List Int} {n nf nm nc sn : Nat} (i1 : IntsAre ws ms) (i2 : ∀ a ∈ ms, 0 ≤ a) (i3 : 12 ≤ ms.length) (i4 : ms.length ≤ 18) :
   SegK w loose mean mg mb (some []) fa (Str.ofString "law") (tS 76) cdv (fun _ => []) ((tB 76).drop 2) 30 700
    (fun m₀ y => if y = Str.ofString "room" then some (.int 20 tr) else if y = Str.ofString "calls" then some (.ref ca) else if y = Str.ofString "mine" then some (.ref mi) else if y = Str.ofString "thread" then some (.ref x) else if y = Str.ofString "some" then some (.ref so) else m₀ y)
    (fun _ => (x, instObj 677 dx) :: (dx, thrD w.params kt stk 0 tt frs up) :: (stk, listOf (List.replicate 20 Value.none).toArray n) :: (frs, listOf #[] nf) :: (mi, listOf #[] nm) :: (ca, listOf #[] nc) :: (so, listOf ws.toArray sn) :: [])
    (fun K => ∀ nx, K (.bool true) nx) := by
  intro dp un outer A₀ base h₀ L m₀ s Q E B F X N S T hd hu hE hret
  have J0 := inv_start S
  have hl := i1.length
  refine execs_as rfl ?_
  k_extra "nt_go"
  refine Park.out ?_
  unfold Park
  refine nt_list1C (vs := ws) (y := Str.ofString "room") (fun i u nx => ∃ room t, u = .int room t ∧ Inv w.params kt x dx frs up mi ca [(so, listOf ws.toArray sn)] (if i = 0 then 0 else 29 + i) room nx) rfl (by k_extra "nt_mem") (by k_asm) (by k_asm) rfl ⟨20, tr, rfl, J0⟩ ?hJl ?turn ?done
  case hJl =>
    rintro i u nx ⟨_, _, _, h⟩
    exact inv_mem h (.head _)
  case done =>
    intro w' u news₁ h tk hJ F₁ N₁
    obtain ⟨_, _, _, hI⟩ := hJ
    have hso := inv_mem hI (.head _)
    obtain ⟨a0, a1, a2, a3, a4, a5, a6, a7, t0, t1, t2, t3, t4, t5, t6, t7, more, rfl, p3, p4, p5, p6, p7⟩ := ints_some i1 i2 i3
    refine' segk_use (law_y p3 p4 p5 p6 p7) (by k_asm) ?F1 (by k_asm) (led := [(so, listOf (someL a0 a1 a2 a3 a4 a5 a6 a7 t0 t1 t2 t3 t4 t5 t6 t7 more).toArray sn)]) (fun p hp => N₁ p (List.mem_singleton.mp hp ▸ hso)) sep_single .refl (by k_asm) (by omega) (by omega) (by k_asm) ?R1
    case F1 => exact fr_put F₁ rfl
    case R1 => exact hret
  case turn =>
    intro i v u news₁ h tk I o hv ho hoff hJ F₁ N₁
    obtain ⟨room, t, rfl, hI⟩ := hJ
    obtain ⟨nb, tv, rfl, hm⟩ := ints_at i1 hv
    obtain ⟨l1, hI1, N1⟩ := Inv_in hI N₁ hoff
    have hI0 := hI
    clear N₁ hI
    have hi : i < ws.length := (List.getElem?_eq_some_iff.mp hv).1
    have hk60 : (if i = 0 then 0 else 29 + i) ≤ 60 := by split <;> omega
    have hkk : max (if i = 0 then 0 else 29 + i) 29 + 1 = 29 + (i + 1) := by split <;> omega
    have hk61 : max (if i = 0 then 0 else 29 + i) 29 + 1 ≤ 60 := by rw [hkk]; omega
    k_with "call ref" => ((open YesNtLawZ in skip); k_here; (with_reducible show wpAny _ _ (call (Value.ref 910) _) _ _ _); k_dflt (refine' says_use (deed_says hk60 (i2 _ hm) hI1) ?k1 ?k2 ?k3 ?k4 ?k5 ?k6 ?k7 ?k8 ?_; (case k1 => k_asm); (case k2 => k_asm); (case k3 => k_asm); (case k4 => k_asm); (case k5 => k_asm); (case k6 => exact rfl); (case k7 => k_extra "nt_room"); (case k8 => k_extra "nt_room"); k_whole); intro r2' l2' h' tk' F' N' P2'; (obtain ⟨room2', t2', hr2', hg2', hI2'⟩ := P2'); subst hr2'; (try k_sweep))
    k_extra "nt_go"
    k_extra "nt_no"
    k_with "call ref" => ((open YesNtLawZ in skip); k_here; (with_reducible show wpAny _ _ (call (Value.ref 915) _) _ _ _); k_dflt (refine' says_use (stands_says hk61 hI2') ?k1 ?k2 ?k3 ?k4 ?k5 ?k6 ?k7 ?k8 ?_; (case k1 => k_asm); (case k2 => k_asm); (case k3 => k_asm); (case k4 => k_asm); (case k5 => k_asm); (case k6 => exact rfl); (case k7 => k_extra "nt_room"); (case k8 => k_extra "nt_room"); k_whole); intro r3' l3' h' tk' F' N' P3'; (obtain ⟨hr3', hl3'⟩ := P3'); subst hr3'; subst hl3'; (try k_sweep))
    k_extra "nt_go"
    k_extra "nt_no"
    k_extra "nt_go"
    k_extra "nt_no"
    k_extra "nt_go"
    have hso : ∀ p ∈ [(so, listOf ws.toArray sn)], p.1 ≠ I := by
      intro p hp
      rw [List.mem_singleton.mp hp]
      exact fun e => hoff _ (.head _) so (List.mem_map.mpr ⟨_, inv_mem hI0 (.head _), rfl⟩) e.symm
    obtain ⟨l4, hI4, N4, hof⟩ := Inv_out hI2' N' ho hso
    have hIk : Inv w.params kt x dx frs up mi ca [(so, listOf ws.toArray sn)] (if i + 1 = 0 then 0 else 29 + (i + 1)) room2' l4 := by
      rw [if_neg (Nat.succ_ne_zero i), ← hkk]
      exact hI4
    exact nt_invEnd F' N4 ⟨fun z hz1 hz2 => by dsimp only; rw [if_neg hz2, if_neg hz1, if_neg hz2], _, rfl, room2', t2', rfl, hIk⟩ hof
end
end NtMine

end
-- NtLaw
section
open NtMine.InNtCompL
open NtMine.InNtDeed
open NtMine.InNtStands
open NtMine.InNtNums
open PySem PySem.W PySem.Calls PyProof.Rows NtHd
set_option Elab.async false
namespace NtMine
set_option maxRecDepth 100000
set_option pp.deepTerms false
set_option pp.maxSteps 2500
set_option maxHeartbeats 8000000
theorem look1 (a : Str) (v : Value) : (fun x => List.lookup x [(a, v)].reverse) = fun y => if y = a then some v else none := by
  funext x
  by_cases e : x = a
  · rw [if_pos e, e]
    simp [List.lookup]
  · rw [if_neg e]
    have e' : (x == a) = false := by simpa using e
    simp [List.lookup, e']
theorem tst : PySem.Challenge.rw_nt0650_01.Holds := by
  w_on
  refine holds_law said_all fun said => ?_
  refine holds_open (q := hd.view_39) (loose := loose) (Xt := Xt) (XP := XL hd.view_39 []) (Yf := Hook.obs hk) (Ya := Hook.val hk) (YP := Hook.says hk) (N := 8000) left_all (Hook.of hk) (Hook.keeps hk) (fun s e => xl_of s (Bool.and_eq_true_iff.mp e).1) XL.keeps (by rfl) (by rfl) (by rfl) (fun s e => recFacts_of (Bool.and_eq_true_iff.mp e).2) (by rfl) said (by decide +kernel) ⟨rfl, rfl, rfl, rfl, rfl, by decide +kernel⟩ ?hw ?hc
  case hw => w_witness2
  case hc =>
    k_fill
    intro w s₀ s₁ mg mb G Y fa o pm cd doc dV kV ho hd hcd hD hmg hg args vals as hpre hlay hrd hwl hlo
    have KX := kIn_of Y
    have X := (Ground.X G).1
    have V := (Ground.X G).2
    refine Ground.open G ?_
    intro T B D TE TW
    try (refine guard_noD D (by decide +kernel) ?_; clear D)
    obtain ⟨_, _, M⟩ := bmod_of_top T
    have TA := at_of_top T
    try (obtain ⟨_, _, he, B0⟩ := based_of_top T rfl hmg ho hd; have he' : cd = _ := he; subst he'; clear he)
    clear hmg
    wrow_args hpre hlay hrd hwl hlo
    first | refine callC_kw (enter_call ?_) | refine enter_call ?_ | refine callC_kw (enter_callW ?_) | refine enter_callW ?_ | w_how
    w_top on
    try refine codeAny_mono ?_ (fun _ _ g => GoodW.toG g)
    have K0 := below_caller (Top.heap T)
    w_call any ho hd hcd hD T F
    clear hd TA
    k_drop
    rename IntsAre _ _ => hI
    have hlen' := hI.length
    refine law_a (fun i1 i2 i3 i4 => law_z i1 i2 i3 i4) (by assumption) hI (by omega) (by assumption) ?hF (by assumption) (by assumption) (by assumption) ?hd ?hu ?hE ?hret
    case hF =>
      rename Fr _ _ _ _ => F
      exact look1 _ _ ▸ F
    case hd => decide
    case hu => decide
    case hE => with_unfolding_all passes_own
    case hret =>
      intro nx fl h' tk' m' e F' N' S'
      show GoodW _ _ _ _ _ (.ok (.ret (flv fl))) _
      rw [e]
      refine goodW_bool (by assumption) (by assumption) (raisesW_false ?hn) ?hp
      case hn => wrow_none_raised
      case hp => exact postW_of (by wrow_shape) (by wtm_val) (by first | rfl | w_fin)
end NtMine

end

theorem PySem.Challenge.cw_nt0650_01_holds : PySem.Challenge.rw_nt0650_01.Holds :=
  NtMine.tst
